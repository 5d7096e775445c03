import PyProof.Rows.All
import Wide.All
import OpenK.AllK
import Wide.FinOn
import HandS.ForMost
import HandS.ForExc
import HandS.CallSlots
import HandS.TryMany
import HandS.DictTup
import HandS.TupAny
import HandS.Conv
import HandS.IsInst
import HandS.TupMul
import HandS.TupLen
import KE.KEqNest
import KE.DataEq
import KE.KDictKeyed
import HandS.More
import KE.SortData
import KE.SortKeyHeap
import HandS.Style
import HandS.Steps
import KE.KDictPairs
import HandS.DictComp
import HandS.Head0
import HandS.Head1
import HandS.Head2
import HandS.HeadEnd
import HandS.HeadHook1
import HandS.HeadHook2
import HandS.HeadHook4
import PySem.Challenge.RW_plughall_k83_gone_over
import KE.KxText
import KE.KStateDown
set_option Elab.async false
set_option linter.all false
set_option maxRecDepth 100000
set_option maxHeartbeats 3999000
namespace DL
open PySem PySem.Spec PyProof.Rows L2
/-! ### data as trees; objects in flight by address -/
inductive D where
  | non | bl (b : Bool) | int (i : Int) | str (x : Str) | ty (n : String)
  | tup (ds : List D) | lst (ds : List D) | dct (kvs : List (D × D)) | ref (a : Addr)
inductive SO where
  | lst (ds : List D) | dct (kvs : List (D × D)) | ins (C : Addr) (fs : List (Str × D))
  /-- a dict that is locked: read, and written no more -/
  | dcz (z : Obj × HO) (kvs : List (D × D))
abbrev Own := Addr → Option SO
def Own.put (S : Own) (a : Addr) (o : SO) : Own := fun b => if b = a then some o else S b
def Own.del (S : Own) (a : Addr) : Own := fun b => if b = a then none else S b
theorem Own.put_same {S : Own} {a : Addr} {o : SO} : S.put a o a = some o := by unfold Own.put; rw [if_pos rfl]
theorem Own.put_ne {S : Own} {a b : Addr} {o : SO} (h : b ≠ a) : S.put a o b = S b := by unfold Own.put; rw [if_neg h]
theorem Own.del_same {S : Own} {a : Addr} : S.del a a = none := by unfold Own.del; rw [if_pos rfl]
theorem Own.del_ne {S : Own} {a b : Addr} (h : b ≠ a) : S.del a b = S b := by unfold Own.del; rw [if_neg h]
theorem Own.put_put {S : Own} {a : Addr} {o u : SO} : (S.put a o).put a u = S.put a u := by
  funext b; unfold Own.put; split <;> rfl
theorem Own.put_del {S : Own} {a : Addr} {o : SO} (h : S a = none) : (S.put a o).del a = S := by
  funext b; unfold Own.put Own.del
  by_cases e : b = a
  · subst e; show (if b = b then none else _) = S b; rw [if_pos rfl, h]
  · show (if b = a then none else if b = a then some o else S b) = S b
    rw [if_neg e, if_neg e]
theorem Own.put_comm {S : Own} {a b : Addr} {o u : SO} (h : a ≠ b) : (S.put a o).put b u = (S.put b u).put a o := by
  funext c; unfold Own.put
  by_cases e : c = b
  · subst e; rw [if_pos rfl, if_neg (Ne.symm h), if_pos rfl]
  · by_cases e2 : c = a
    · subst e2; rw [if_neg e, if_pos rfl, if_pos rfl]
    · rw [if_neg e, if_neg e2, if_neg e2, if_neg e]
theorem Own.ne_of {S : Own} {a b : Addr} {o : SO} (h : S a = some o) (h' : S b = none) : a ≠ b := by
  intro e; subst e; rw [h] at h'; cases h'
def keyD : Key → D
  | .inl i => .int i
  | .inr x => .str x
theorem keyD_inj : ∀ {a b : Key}, keyD a = keyD b → a = b
  | .inl _, .inl _, h => by injection h with h; rw [h]
  | .inr _, .inr _, h => by injection h with h; rw [h]
  | .inl _, .inr _, h => nomatch h
  | .inr _, .inl _, h => nomatch h
/-- a tuple's items, a list's, to be read: tracked and not in flight -/
def TupAt (H : Hp) (S : Own) (a : Addr) (vs : List V) : Prop := H a = some (.tup vs) ∧ S a = none
def LstAt (H : Hp) (S : Own) (a : Addr) (vs : List V) : Prop := Rd H a (.lst vs) ∧ S a = none
/-- a dict's pairs: keys ints and texts; keys tuples of these -/
def DkAt (H : Hp) (S : Own) (a : Addr) (kvs : List (Key × V)) : Prop := Rd H a (.dK kvs) ∧ S a = none
def DtAt (H : Hp) (S : Own) (a : Addr) (kvs : List (List Key × V)) : Prop := Rd H a (.dT kvs) ∧ S a = none
mutual
inductive Rep (K : PySem.W.Frag) (H : Hp) (S : Own) : V → D → Prop
  | non : Rep K H S .non .non
  | bl (b : Bool) : Rep K H S (.bl b) (.bl b)
  | int (i : Int) : Rep K H S (.int i) (.int i)
  | str (x : Str) : Rep K H S (.str x) (.str x)
  | ty (n : String) : Rep K H S (.ty n) (.ty n)
  | ref (a : Addr) : Rep K H S (.ref a) (.ref a)
  | tup {a : Addr} {vs : List V} {ds : List D} : TupAt H S a vs → Reps K H S vs ds → Rep K H S (.ref a) (.tup ds)
  | lst {a : Addr} {vs : List V} {ds : List D} : LstAt H S a vs → Reps K H S vs ds → Rep K H S (.ref a) (.lst ds)
  | dk {a : Addr} {kvs : List (Key × V)} {es : List (D × D)} : DkAt H S a kvs → RepK K H S kvs es → Rep K H S (.ref a) (.dct es)
  | dt {a : Addr} {kvs : List (List Key × V)} {es : List (D × D)} : DtAt H S a kvs → RepT K H S kvs es → Rep K H S (.ref a) (.dct es)
inductive Reps (K : PySem.W.Frag) (H : Hp) (S : Own) : List V → List D → Prop
  | nil : Reps K H S [] []
  | cons {v : V} {d : D} {vs : List V} {ds : List D} : Rep K H S v d → Reps K H S vs ds → Reps K H S (v :: vs) (d :: ds)
inductive RepK (K : PySem.W.Frag) (H : Hp) (S : Own) : List (Key × V) → List (D × D) → Prop
  | nil : RepK K H S [] []
  | cons {k : Key} {v : V} {d : D} {kvs : List (Key × V)} {es : List (D × D)} : Rep K H S v d → RepK K H S kvs es → RepK K H S ((k, v) :: kvs) ((keyD k, d) :: es)
inductive RepT (K : PySem.W.Frag) (H : Hp) (S : Own) : List (List Key × V) → List (D × D) → Prop
  | nil : RepT K H S [] []
  | cons {k : List Key} {v : V} {d : D} {kvs : List (List Key × V)} {es : List (D × D)} : Rep K H S v d → RepT K H S kvs es → RepT K H S ((k, v) :: kvs) ((.tup (k.map keyD), d) :: es)
end
/-- what is tracked and not in flight stays (a dict may be locked), and comes to be in flight never -/
def Fr (H : Hp) (S : Own) (H' : Hp) (S' : Own) : Prop :=
  ∀ a o, H a = some o → S a = none → S' a = none ∧ (H' a = some o ∨ (Mut (some o) ∧ ∃ ob, H' a = some (.frz ob o)))
theorem Fr.refl (H : Hp) (S : Own) : Fr H S H S := fun _ _ h s => ⟨s, .inl h⟩
theorem Fr.trans {H H1 H2 : Hp} {S S1 S2 : Own} (a : Fr H S H1 S1) (b : Fr H1 S1 H2 S2) : Fr H S H2 S2 := fun x o h s => by
  obtain ⟨s1, h1⟩ := a x o h s
  rcases h1 with h1 | ⟨m, ob, h1⟩
  · exact b x o h1 s1
  · obtain ⟨s2, h2⟩ := b x _ h1 s1
    rcases h2 with h2 | ⟨m2, _⟩
    · exact ⟨s2, .inr ⟨m, ob, h2⟩⟩
    · exact m2.elim
theorem Fr.rd {H H' : Hp} {S S' : Own} (f : Fr H S H' S') {a : Addr} {u : HO} (h : Rd H a u) (s : S a = none) : Rd H' a u ∧ S' a = none := by
  rcases h with h | ⟨ob, h⟩
  · obtain ⟨s1, h1⟩ := f a u h s
    rcases h1 with h1 | ⟨_, ob, h1⟩
    · exact ⟨.inl h1, s1⟩
    · exact ⟨.inr ⟨ob, h1⟩, s1⟩
  · obtain ⟨s1, h1⟩ := f a _ h s
    rcases h1 with h1 | ⟨m, _⟩
    · exact ⟨.inr ⟨ob, h1⟩, s1⟩
    · exact m.elim
theorem Fr.tup {H H' : Hp} {S S' : Own} (f : Fr H S H' S') {a : Addr} {vs : List V} (h : TupAt H S a vs) : TupAt H' S' a vs := by
  obtain ⟨s1, h1⟩ := f a _ h.1 h.2
  rcases h1 with h1 | ⟨m, _⟩
  · exact ⟨h1, s1⟩
  · exact m.elim
section
variable {K : PySem.W.Frag} {H H' : Hp} {S S' : Own}
mutual
theorem Rep.fr (f : Fr H S H' S') : ∀ {v : V} {d : D}, Rep K H S v d → Rep K H' S' v d
  | _, _, .non => .non
  | _, _, .bl b => .bl b
  | _, _, .int i => .int i
  | _, _, .str x => .str x
  | _, _, .ty n => .ty n
  | _, _, .ref a => .ref a
  | _, _, .tup h r => .tup (f.tup h) (Reps.fr f r)
  | _, _, .lst h r => .lst (f.rd h.1 h.2) (Reps.fr f r)
  | _, _, .dk h r => .dk (f.rd h.1 h.2) (RepK.fr f r)
  | _, _, .dt h r => .dt (f.rd h.1 h.2) (RepT.fr f r)
theorem Reps.fr (f : Fr H S H' S') : ∀ {vs : List V} {ds : List D}, Reps K H S vs ds → Reps K H' S' vs ds
  | _, _, .nil => .nil
  | _, _, .cons h r => .cons (Rep.fr f h) (Reps.fr f r)
theorem RepK.fr (f : Fr H S H' S') : ∀ {vs : List (Key × V)} {ds : List (D × D)}, RepK K H S vs ds → RepK K H' S' vs ds
  | _, _, .nil => .nil
  | _, _, .cons h r => .cons (Rep.fr f h) (RepK.fr f r)
theorem RepT.fr (f : Fr H S H' S') : ∀ {vs : List (List Key × V)} {ds : List (D × D)}, RepT K H S vs ds → RepT K H' S' vs ds
  | _, _, .nil => .nil
  | _, _, .cons h r => .cons (Rep.fr f h) (RepT.fr f r)
end
theorem Reps.length : ∀ {vs : List V} {ds : List D}, Reps K H S vs ds → vs.length = ds.length
  | _, _, .nil => rfl
  | _, _, .cons _ r => by rw [List.length_cons, List.length_cons, Reps.length r]
theorem Reps.get : ∀ {vs : List V} {ds : List D} {i : Nat} {d : D}, Reps K H S vs ds → ds[i]? = some d → ∃ v, vs[i]? = some v ∧ Rep K H S v d
  | _, _, _, _, .nil, e => by simp at e
  | _, _, 0, _, .cons h _, e => by simp at e; subst e; exact ⟨_, rfl, h⟩
  | _, _, i + 1, _, .cons _ r, e => by
    obtain ⟨v, h1, h2⟩ := Reps.get (i := i) r (by simpa using e)
    exact ⟨v, by simpa using h1, h2⟩
theorem Reps.get' : ∀ {vs : List V} {ds : List D} {i : Nat} {v : V}, Reps K H S vs ds → vs[i]? = some v → ∃ d, ds[i]? = some d ∧ Rep K H S v d
  | _, _, _, _, .nil, e => by simp at e
  | _, _, 0, _, .cons h _, e => by simp at e; subst e; exact ⟨_, rfl, h⟩
  | _, _, i + 1, _, .cons _ r, e => by
    obtain ⟨v, h1, h2⟩ := Reps.get' (i := i) r (by simpa using e)
    exact ⟨v, by simpa using h1, h2⟩
theorem Reps.append : ∀ {vs : List V} {ds : List D} {vs' : List V} {ds' : List D}, Reps K H S vs ds → Reps K H S vs' ds' → Reps K H S (vs ++ vs') (ds ++ ds')
  | _, _, _, _, .nil, s => s
  | _, _, _, _, .cons h r, s => .cons h (Reps.append r s)
theorem Reps.drop : ∀ {vs : List V} {ds : List D} (n : Nat), Reps K H S vs ds → Reps K H S (vs.drop n) (ds.drop n)
  | _, _, 0, r => r
  | _, _, _ + 1, .nil => .nil
  | _, _, n + 1, .cons _ t => Reps.drop n t
theorem Reps.take : ∀ {vs : List V} {ds : List D} (n : Nat), Reps K H S vs ds → Reps K H S (vs.take n) (ds.take n)
  | _, _, 0, _ => .nil
  | _, _, _ + 1, .nil => .nil
  | _, _, n + 1, .cons h t => .cons h (Reps.take n t)
theorem Reps.set {x : V} {d : D} (h : Rep K H S x d) : ∀ {vs : List V} {ds : List D} (i : Nat), Reps K H S vs ds → Reps K H S (vs.set i x) (ds.set i d)
  | _, _, _, .nil => .nil
  | _, _, 0, .cons _ t => .cons h t
  | _, _, i + 1, .cons q t => .cons q (Reps.set h i t)
theorem Reps.eraseIdx : ∀ {vs : List V} {ds : List D} (i : Nat), Reps K H S vs ds → Reps K H S (vs.eraseIdx i) (ds.eraseIdx i)
  | _, _, _, .nil => .nil
  | _, _, 0, .cons _ t => t
  | _, _, i + 1, .cons q t => .cons q (Reps.eraseIdx i t)
theorem Reps.reverse : ∀ {vs : List V} {ds : List D}, Reps K H S vs ds → Reps K H S vs.reverse ds.reverse
  | _, _, .nil => .nil
  | _, _, .cons q t => by rw [List.reverse_cons, List.reverse_cons]; exact Reps.append (Reps.reverse t) (.cons q .nil)
theorem Reps.rep : ∀ {vs : List V} {ds : List D} (k : Nat), Reps K H S vs ds → Reps K H S (List.replicate k vs).flatten (List.replicate k ds).flatten
  | _, _, 0, _ => .nil
  | _, _, k + 1, r => by rw [List.replicate_succ, List.replicate_succ, List.flatten_cons, List.flatten_cons]; exact Reps.append r (Reps.rep k r)
theorem Reps.ints : ∀ (ns : List Int), Reps K H S (ns.map V.int) (ns.map D.int)
  | [] => .nil
  | n :: ns => .cons (.int n) (Reps.ints ns)
theorem Reps.strs : ∀ (ns : List Str), Reps K H S (ns.map V.str) (ns.map D.str)
  | [] => .nil
  | n :: ns => .cons (.str n) (Reps.strs ns)
theorem RepK.length : ∀ {vs : List (Key × V)} {ds : List (D × D)}, RepK K H S vs ds → vs.length = ds.length
  | _, _, .nil => rfl
  | _, _, .cons _ r => by rw [List.length_cons, List.length_cons, RepK.length r]
theorem RepT.length : ∀ {vs : List (List Key × V)} {ds : List (D × D)}, RepT K H S vs ds → vs.length = ds.length
  | _, _, .nil => rfl
  | _, _, .cons _ r => by rw [List.length_cons, List.length_cons, RepT.length r]
theorem TupAt.sq {a : Addr} {vs : List V} (h : TupAt H S a vs) : SqT K H a vs := .inl (.inl h.1)
theorem LstAt.sq {a : Addr} {vs : List V} (h : LstAt H S a vs) : SqL K H a vs := .inl h.1
end
/-- what is in flight stands in the heap -/
def SoAt (K : PySem.W.Frag) (H : Hp) (S : Own) (a : Addr) : SO → Prop
  | .lst ds => ∃ vs, H a = some (.lst vs) ∧ Reps K H S vs ds
  | .dct es => (∃ kvs, H a = some (.dK kvs) ∧ RepK K H S kvs es) ∨ ∃ kvs, H a = some (.dT kvs) ∧ RepT K H S kvs es
  | .dcz z es => H a = some (.frz z.1 z.2) ∧ ((∃ kvs, z.2 = .dK kvs ∧ RepK K H S kvs es) ∨ ∃ kvs, z.2 = .dT kvs ∧ RepT K H S kvs es)
  | .ins C fs => ∃ dx gs, H a = some (.ins C dx gs) ∧ Paired (fun (p : Str × V) (q : Str × D) => p.1 = q.1 ∧ Rep K H S p.2 q.2) gs fs
def Owns (K : PySem.W.Frag) (H : Hp) (S : Own) : Prop := ∀ a o, S a = some o → SoAt K H S a o
theorem SoAt.there {K : PySem.W.Frag} {H : Hp} {S : Own} {a : Addr} {o : SO} (h : SoAt K H S a o) : ∃ u, H a = some u := by
  cases o with
  | lst ds => obtain ⟨_, h, _⟩ := h; exact ⟨_, h⟩
  | dct es => rcases h with ⟨_, h, _⟩ | ⟨_, h, _⟩ <;> exact ⟨_, h⟩
  | ins C fs => obtain ⟨_, _, h, _⟩ := h; exact ⟨_, h⟩
  | dcz z es => exact ⟨_, h.1⟩
theorem Owns.free {K : PySem.W.Frag} {H : Hp} {S : Own} (W : Owns K H S) {p : Addr} (h : H p = none) : S p = none := by
  cases e : S p with
  | none => rfl
  | some o =>
    obtain ⟨u, q⟩ := (W p o e).there
    rw [h] at q; cases q
/-- an object in flight as it stood, where the rest of the heap went on -/
theorem SoAt.fr {K : PySem.W.Frag} {H H' : Hp} {S S' : Own} {a : Addr} {o : SO} (f : Fr H S H' S') (e : H' a = H a) (h : SoAt K H S a o) : SoAt K H' S' a o := by
  cases o with
  | lst ds => obtain ⟨vs, h, r⟩ := h; exact ⟨vs, e.trans h, r.fr f⟩
  | dct es =>
    rcases h with ⟨kvs, h, r⟩ | ⟨kvs, h, r⟩
    · exact .inl ⟨kvs, e.trans h, r.fr f⟩
    · exact .inr ⟨kvs, e.trans h, r.fr f⟩
  | dcz z es =>
    refine ⟨e.trans h.1, ?_⟩
    rcases h.2 with ⟨kvs, h, r⟩ | ⟨kvs, h, r⟩
    · exact .inl ⟨kvs, h, r.fr f⟩
    · exact .inr ⟨kvs, h, r.fr f⟩
  | ins C fs =>
    obtain ⟨dx, gs, h, r⟩ := h
    exact ⟨dx, gs, e.trans h, Paired.mapP r fun p q z => ⟨z.1, z.2.fr f⟩⟩
abbrev St := L2.St
abbrev DG := List (Option D)
def REnv (K : PySem.W.Frag) (H : Hp) (S : Own) (G : DG) (σ : St) : Prop :=
  G.length = σ.length ∧ ∀ (i : Nat) (d : D), G[i]? = some (some d) → ∃ v, σ[i]? = some (some v) ∧ Rep K H S v d
theorem REnv.fr {K : PySem.W.Frag} {H H' : Hp} {S S' : Own} {G : DG} {σ : St} (f : Fr H S H' S') (r : REnv K H S G σ) : REnv K H' S' G σ :=
  ⟨r.1, fun i d e => let ⟨v, h1, h2⟩ := r.2 i d e; ⟨v, h1, h2.fr f⟩⟩
theorem REnv.set {K : PySem.W.Frag} {H : Hp} {S : Own} {G : DG} {σ : St} {v : V} {d : D} (r : REnv K H S G σ) (i : Nat) (h : Rep K H S v d) : REnv K H S (G.set i (some d)) (σ.set i (some v)) := by
  refine ⟨by rw [List.length_set, List.length_set, r.1], fun j e q => ?_⟩
  by_cases hj : i = j
  · subst hj
    rw [List.getElem?_set] at q ⊢
    simp only [if_true] at q ⊢
    split at q
    · rename_i hlt
      cases q
      rw [if_pos (by rw [← r.1]; exact hlt)]
      exact ⟨v, rfl, h⟩
    · cases q
  · rw [List.getElem?_set_ne hj] at q ⊢
    exact r.2 j e q
/-- what is in flight here, and what is in flight elsewhere and not to be seen here -/
def over (S Z : Own) : Own := fun a => match S a with
  | some o => some o
  | none => Z a
theorem over_some {S Z : Own} {a : Addr} {o : SO} (h : S a = some o) : over S Z a = some o := by simp only [over, h]
theorem over_none {S Z : Own} {a : Addr} (h : over S Z a = none) : S a = none ∧ Z a = none := by
  cases e : S a with
  | none => simp only [over, e] at h; exact ⟨rfl, h⟩
  | some o => simp only [over, e] at h; cases h
theorem over_at {S Z : Own} {a : Addr} (h : S a = none) : over S Z a = Z a := by simp only [over, h]
theorem over_put {S Z : Own} {a : Addr} {o : SO} : over (S.put a o) Z = (over S Z).put a o := by
  funext b
  by_cases e : b = a
  · subst e; rw [over_some Own.put_same, Own.put_same]
  · have h1 : (S.put a o) b = S b := Own.put_ne e
    rw [Own.put_ne e]
    unfold over
    rw [h1]
def Dis (S Z : Own) : Prop := ∀ a o, S a = some o → Z a = none
theorem Dis.put {S Z : Own} {a : Addr} {o : SO} (d : Dis S Z) (h : Z a = none) : Dis (S.put a o) Z := fun b u e => by
  by_cases z : b = a
  · subst z; exact h
  · rw [Own.put_ne z] at e; exact d b u e
/-- the base: heap and flight at the def's entry; what is hidden -/
structure Bs where
  h : Hp
  s : Own
  z : Own
abbrev ov (B : Bs) (S : Own) : Own := over S B.z
structure At (K : PySem.W.Frag) (B : Bs) (H : Hp) (S : Own) (G : DG) (σ : St) : Prop where
  own : Owns K H (ov B S)
  env : REnv K H (ov B S) G σ
  fr : Fr B.h (ov B B.s) H (ov B S)
  dis : Dis S B.z
theorem At.go {K : PySem.W.Frag} {B : Bs} {H H' : Hp} {S S' : Own} {G : DG} {σ : St} (a : At K B H S G σ) (f : Fr H (ov B S) H' (ov B S')) (w : Owns K H' (ov B S')) (d : Dis S' B.z) : At K B H' S' G σ := ⟨w, a.env.fr f, a.fr.trans f, d⟩
theorem At.free {K : PySem.W.Frag} {B : Bs} {H : Hp} {S : Own} {G : DG} {σ : St} (a : At K B H S G σ) {p : Addr} (h : H p = none) : S p = none ∧ B.z p = none := over_none (a.own.free h)
end DL
namespace DL
open PySem PySem.Spec PyProof.Rows L2
section
variable {K : PySem.W.Frag} {H H' : Hp} {S S' : Own} {a p : Addr} {o u : HO}
/-! ### what happens to the heap -/
theorem fr_laid (hp : H p = none) : Fr H S (upd H p o) S := fun x q h s => ⟨s, .inl (by rw [upd_ne (ne_of_none h hp)]; exact h)⟩
theorem fr_laidO {so : SO} (hp : H p = none) : Fr H S (upd H p o) (S.put p so) := fun x q h s =>
  ⟨by rw [Own.put_ne (ne_of_none h hp)]; exact s, .inl (by rw [upd_ne (ne_of_none h hp)]; exact h)⟩
theorem fr_write {so so' : SO} (ha : S a = some so) : Fr H S (upd H a o) (S.put a so') := fun x q h s => by
  have ne : x ≠ a := fun e => by subst e; rw [s] at ha; cases ha
  exact ⟨by rw [Own.put_ne ne]; exact s, .inl (by rw [upd_ne ne]; exact h)⟩
theorem fr_drop (h : ∀ x, S x = none → S' x = none) : Fr H S H S' := fun x q e s => ⟨h x s, .inl e⟩
theorem Owns.laid (W : Owns K H S) (hp : H p = none) : Owns K (upd H p o) S := fun x q e => by
  have ne : x ≠ p := fun z => by subst z; rw [W.free hp] at e; cases e
  exact (W x q e).fr (fr_laid hp) (upd_ne ne)
theorem Owns.laidO {so : SO} (W : Owns K H S) (hp : H p = none) (new : SoAt K (upd H p o) (S.put p so) p so) : Owns K (upd H p o) (S.put p so) := fun x q e => by
  by_cases ne : x = p
  · subst ne; rw [Own.put_same] at e; cases e; exact new
  · rw [Own.put_ne ne] at e
    exact (W x q e).fr (fr_laidO hp) (upd_ne ne)
theorem Owns.write {so so' : SO} (W : Owns K H S) (ha : S a = some so) (new : SoAt K (upd H a o) (S.put a so') a so') : Owns K (upd H a o) (S.put a so') := fun x q e => by
  by_cases ne : x = a
  · subst ne; rw [Own.put_same] at e; cases e; exact new
  · rw [Own.put_ne ne] at e
    exact (W x q e).fr (fr_write ha) (upd_ne ne)
theorem Owns.drop (W : Owns K H S) (h : ∀ x, S' x = none ∨ S' x = S x) : Owns K H S' := fun x q e => by
  have e' : S x = some q := by
    rcases h x with z | z
    · rw [z] at e; cases e
    · rw [← z]; exact e
  exact (W x q e').fr (fr_drop fun y hy => by rcases h y with z | z; exact z; rw [z]; exact hy) rfl
theorem tupAt_new {vs : List V} (hp : S p = none) : TupAt (upd H p (.tup vs)) S p vs := ⟨upd_same, hp⟩
theorem lstAt_new {vs : List V} (hp : S p = none) : LstAt (upd H p (.lst vs)) S p vs := ⟨.inl upd_same, hp⟩
end
/-! ### readings -/
abbrev DVK := D → Own → Prop
abbrev RE := DG → Own → DVK → Prop
abbrev RT := DG → Own → (Bool → Own → Prop) → Prop
abbrev RA := DG → Own → (List D → Own → Prop) → Prop
structure DEnds where
  nx : DG → Own → Prop
  rt : DVK
  bk : DG → Own → Prop := fun _ _ => False
  ct : DG → Own → Prop := fun _ _ => False
abbrev RS := DEnds → DG → Own → Prop
def QL (K : PySem.W.Frag) (B : Bs) (G : DG) (σ : St) (H : Hp) (S : Own) (R : DVK) : VK := fun v H' => ∃ d S', R d S' ∧ Fr H (ov B S) H' (ov B S') ∧ At K B H' S' G σ ∧ Rep K H' (ov B S') v d
def QT (K : PySem.W.Frag) (B : Bs) (G : DG) (σ : St) (H : Hp) (S : Own) (R : Bool → Own → Prop) : Bool → Hp → Prop := fun b H' => ∃ S', R b S' ∧ Fr H (ov B S) H' (ov B S') ∧ At K B H' S' G σ
def QA (K : PySem.W.Frag) (B : Bs) (G : DG) (σ : St) (H : Hp) (S : Own) (R : List D → Own → Prop) : List V → Hp → Prop := fun vs H' => ∃ ds S', R ds S' ∧ Fr H (ov B S) H' (ov B S') ∧ At K B H' S' G σ ∧ Reps K H' (ov B S') vs ds
def liftE (K : PySem.W.Frag) (B : Bs) (t : RE) : TE := fun σ H Q => ∃ G S R, At K B H S G σ ∧ t G S R ∧ ∀ v H', QL K B G σ H S R v H' → Q v H'
def liftT (K : PySem.W.Frag) (B : Bs) (t : RT) : TT := fun σ H Q => ∃ G S R, At K B H S G σ ∧ t G S R ∧ ∀ b H', QT K B G σ H S R b H' → Q b H'
def liftA (K : PySem.W.Frag) (B : Bs) (t : RA) : TA := fun σ H Q => ∃ G S R, At K B H S G σ ∧ t G S R ∧ ∀ vs H', QA K B G σ H S R vs H' → Q vs H'
structure EndsL (K : PySem.W.Frag) (B : Bs) (H : Hp) (S : Own) (DD : DEnds) (D : Ends) : Prop where
  nx : ∀ G' S' σ' H', DD.nx G' S' → Fr H (ov B S) H' (ov B S') → At K B H' S' G' σ' → D.nx σ' H'
  rt : ∀ d S' v H', DD.rt d S' → Fr H (ov B S) H' (ov B S') → Owns K H' (ov B S') → Dis S' B.z → Rep K H' (ov B S') v d → D.rt v H'
  bk : ∀ G' S' σ' H', DD.bk G' S' → Fr H (ov B S) H' (ov B S') → At K B H' S' G' σ' → D.bk σ' H'
  ct : ∀ G' S' σ' H', DD.ct G' S' → Fr H (ov B S) H' (ov B S') → At K B H' S' G' σ' → D.ct σ' H'
def liftS (K : PySem.W.Frag) (B : Bs) (t : RS) : TS := fun D σ H => ∃ G S DD, At K B H S G σ ∧ t DD G S ∧ EndsL K B H S DD D
theorem EndsL.after {K : PySem.W.Frag} {B : Bs} {H H1 : Hp} {S S1 : Own} {DD : DEnds} {D : Ends} (e : EndsL K B H S DD D) (f : Fr H (ov B S) H1 (ov B S1)) : EndsL K B H1 S1 DD D :=
  ⟨fun _ _ _ _ h g => e.nx _ _ _ _ h (f.trans g), fun _ _ _ _ h g => e.rt _ _ _ _ h (f.trans g), fun _ _ _ _ h g => e.bk _ _ _ _ h (f.trans g), fun _ _ _ _ h g => e.ct _ _ _ _ h (f.trans g)⟩
abbrev JE (X : Cx) (B : Bs) (e : Expr) (t : RE) : Prop := PE X e (liftE X.K B t)
abbrev JT (X : Cx) (B : Bs) (e : Expr) (t : RT) : Prop := PT X e (liftT X.K B t)
abbrev JA (X : Cx) (B : Bs) (es : List Expr) (t : RA) : Prop := PA X es (liftA X.K B t)
abbrev JS (X : Cx) (B : Bs) (st : Stmt) (t : RS) : Prop := PS X st (liftS X.K B t)
abbrev JSs (X : Cx) (B : Bs) (st : List Stmt) (t : RS) : Prop := PSs X st (liftS X.K B t)
section
variable {X : Cx}
theorem PE.mono {e : Expr} {t t' : TE} (h : PE X e t) (w : ∀ σ H Q, t' σ H Q → t σ H Q) : PE X e t' := ⟨fun pins s σ H Q I q => h.run pins s σ H Q I (w σ H Q q)⟩
theorem PT.mono {e : Expr} {t t' : TT} (h : PT X e t) (w : ∀ σ H Q, t' σ H Q → t σ H Q) : PT X e t' := ⟨fun pins s σ H Q I q => h.run pins s σ H Q I (w σ H Q q)⟩
theorem PA.mono {e : List Expr} {t t' : TA} (h : PA X e t) (w : ∀ σ H Q, t' σ H Q → t σ H Q) : PA X e t' := ⟨fun pos pins s σ H Q I q => h.run pos pins s σ H Q I (w σ H Q q)⟩
theorem PS.mono {e : Stmt} {t t' : TS} (h : PS X e t) (w : ∀ D σ H, t' D σ H → t D σ H) : PS X e t' := ⟨fun pins s σ H Q I q => h.run pins s σ H Q I (w _ _ _ q)⟩
theorem PSs.mono {e : List Stmt} {t t' : TS} (h : PSs X e t) (w : ∀ D σ H, t' D σ H → t D σ H) : PSs X e t' := ⟨fun pins s σ H Q I q => h.run pins s σ H Q I (w _ _ _ q)⟩
end
section
variable {X : Cx} {B : Bs} {e a b c : Expr} {es : List Expr} {t ta tb tc : RE} {tt tu : RT} {tas : RA} {pos : Pos}
theorem JE.run (h : JE X B e t) {pins : List (Addr × Obj)} {s : Shared} {σ : St} {H : Hp} {S : Own} {G : DG} {R : DVK} (I : Inv X pins σ H s) (A : At X.K B H S G σ) (q : t G S R) :
    wpAny (model X.prog X.w) X.A (eval e X.env) (EP X pins σ (QL X.K B G σ H S R)) X.xe s := PE.run h pins s σ H _ I ⟨G, S, R, A, q, fun _ _ z => z⟩
theorem JT.run (h : JT X B e tt) {pins : List (Addr × Obj)} {s : Shared} {σ : St} {H : Hp} {S : Own} {G : DG} {R : Bool → Own → Prop} (I : Inv X pins σ H s) (A : At X.K B H S G σ) (q : tt G S R) :
    wpAny (model X.prog X.w) X.A (isTrue e X.env (eval e X.env)) (TP X pins σ (QT X.K B G σ H S R)) X.xe s := PT.run h pins s σ H _ I ⟨G, S, R, A, q, fun _ _ z => z⟩
theorem JA.run (h : JA X B es tas) {pos : Pos} {pins : List (Addr × Obj)} {s : Shared} {σ : St} {H : Hp} {S : Own} {G : DG} {R : List D → Own → Prop} (I : Inv X pins σ H s) (A : At X.K B H S G σ) (q : tas G S R) :
    wpAny (model X.prog X.w) X.A (spliced (backTo pos (starEach es X.env))) (AP X pins σ (QA X.K B G σ H S R)) X.xe s := PA.run h pos pins s σ H _ I ⟨G, S, R, A, q, fun _ _ z => z⟩
theorem JE.mk (h : ∀ (pins : List (Addr × Obj)) (s : Shared) (σ : St) (H : Hp) (S : Own) (G : DG) (R : DVK), Inv X pins σ H s → At X.K B H S G σ → t G S R →
    wpAny (model X.prog X.w) X.A (eval e X.env) (EP X pins σ (QL X.K B G σ H S R)) X.xe s) : JE X B e t :=
  ⟨fun pins s σ H Q I ⟨G, S, R, A, q, k⟩ => thn (h pins s σ H S G R I A q) fun u s' ⟨v, H', I', r, z⟩ => ⟨v, H', I', r, k v H' z⟩⟩
theorem JT.mk (h : ∀ (pins : List (Addr × Obj)) (s : Shared) (σ : St) (H : Hp) (S : Own) (G : DG) (R : Bool → Own → Prop), Inv X pins σ H s → At X.K B H S G σ → tt G S R →
    wpAny (model X.prog X.w) X.A (isTrue e X.env (eval e X.env)) (TP X pins σ (QT X.K B G σ H S R)) X.xe s) : JT X B e tt :=
  ⟨fun pins s σ H Q I ⟨G, S, R, A, q, k⟩ => thn (h pins s σ H S G R I A q) fun u s' ⟨H', I', z⟩ => ⟨H', I', k u H' z⟩⟩
/-- a rule over readings with ways in and out -/
theorem QL.trans {K : PySem.W.Frag} {G : DG} {σ : St} {H H1 : Hp} {S S1 : Own} {R : DVK} {v : V} {H' : Hp} (f : Fr H (ov B S) H1 (ov B S1)) (q : QL K B G σ H1 S1 R v H') : QL K B G σ H S R v H' := by
  obtain ⟨d, S', r, g, A, h⟩ := q
  exact ⟨d, S', r, f.trans g, A, h⟩
theorem QL.here {K : PySem.W.Frag} {G : DG} {σ : St} {H : Hp} {S : Own} {R : DVK} {v : V} {d : D} (A : At K B H S G σ) (r : R d S) (h : Rep K H (ov B S) v d) : QL K B G σ H S R v H := ⟨d, S, r, Fr.refl _ _, A, h⟩
/-- a new frozen thing -/
theorem QL.laid {K : PySem.W.Frag} {G : DG} {σ : St} {H : Hp} {S : Own} {R : DVK} {p : Addr} {o : HO} {d : D} (A : At K B H S G σ) (hp : H p = none) (r : R d S) (h : Rep K (upd H p o) (ov B S) (.ref p) d) : QL K B G σ H S R (.ref p) (upd H p o) :=
  ⟨d, S, r, fr_laid hp, A.go (fr_laid hp) (A.own.laid hp) A.dis, h⟩
/-- a new thing in flight -/
theorem QL.laidO {K : PySem.W.Frag} {G : DG} {σ : St} {H : Hp} {S : Own} {R : DVK} {p : Addr} {o : HO} {so : SO} (A : At K B H S G σ) (hp : H p = none) (r : R (.ref p) (S.put p so)) (h : SoAt K (upd H p o) ((ov B S).put p so) p so) : QL K B G σ H S R (.ref p) (upd H p o) := by
  have e : ov B (S.put p so) = (ov B S).put p so := over_put
  exact ⟨.ref p, S.put p so, r, by rw [e]; exact fr_laidO hp, A.go (by rw [e]; exact fr_laidO hp) (by rw [e]; exact A.own.laidO hp h) (A.dis.put (A.free hp).2), .ref p⟩
/-! ### names, constants -/
def dVar (i : Nat) : RE := fun G S R => ∃ d, G[i]? = some (some d) ∧ R d S
def dC (d : D) : RE := fun _ S R => R d S
theorem dv (i : Nat) {x : Str} {pos : Pos} (hN : X.N[i]? = some x := by rfl) (hv : Vis X.env.scope x := by first | exact Or.inl rfl | exact Or.inr (Or.inl rfl) | exact Or.inr (Or.inr rfl)) (hd : (x == ("__debug__" : Str)) = false := by decide)
    (hcd : (x == ("__classdict__" : Str)) = false := by decide) : JE X B (.Name x pos) (dVar i) :=
  PE.mono (pe_var hN hv hd hcd) fun σ H Q ⟨G, S, R, A, ⟨d, e, q⟩, k⟩ => let ⟨v, h1, h2⟩ := A.env.2 i d e; ⟨v, h1, k v H (QL.here A q h2)⟩
theorem JE.const {v : V} {d : D} (h : PE X e (tC v)) (r : ∀ K H S, Rep K H S v d) : JE X B e (dC d) := PE.mono h fun σ H Q ⟨G, S, R, A, q, k⟩ => k v H (QL.here A q (r _ _ _))
theorem de_int {i : Int} {j pos} : JE X B (.Constant (.int i) j pos) (dC (.int i)) := JE.const pe_int fun _ _ _ => .int i
theorem de_bl {b j pos} : JE X B (.Constant (.bool b) j pos) (dC (.bl b)) := JE.const pe_bl fun _ _ _ => .bl b
theorem de_non {j pos} : JE X B (.Constant .none j pos) (dC .non) := JE.const pe_non fun _ _ _ => .non
theorem de_str {x : Str} {j pos} : JE X B (.Constant (.str x) j pos) (dC (.str x)) := JE.const pe_str fun _ _ _ => .str x
/-! ### operators -/
abbrev R2D := D → D → Own → DVK → Prop
def OpD (X : Cx) (f : Value → Value → Sem Value) (r : R2D) : Prop :=
  ∀ (B : Bs) (pins : List (Addr × Obj)) (s : Shared) (σ : St) (H : Hp) (S : Own) (G : DG) (x y : V) (v u : Value) (d e : D) (R : DVK), Inv X pins σ H s → At X.K B H S G σ → Rep X.K H (ov B S) x d → Rep X.K H (ov B S) y e → RelV x v → RelV y u → r d e S R →
    wpAny (model X.prog X.w) X.A (f v u) (EP X pins σ (QL X.K B G σ H S R)) X.xe s
theorem OpD.of {f : Value → Value → Sem Value} {rV : R2} {r : R2D} (h : OpR X f rV) (w : ∀ (B : Bs) (σ : St) (H : Hp) (S : Own) (G : DG) (x y : V) (d e : D) (R : DVK), At X.K B H S G σ → Rep X.K H (ov B S) x d → Rep X.K H (ov B S) y e → r d e S R → rV x y H (QL X.K B G σ H S R)) : OpD X f r :=
  fun B pins s σ H S G x y v u d e R I A hx hy rx ry q => h pins s σ H x y v u _ I rx ry (w B σ H S G x y d e R A hx hy q)
theorem OpD.or {f : Value → Value → Sem Value} {r r' : R2D} (h : OpD X f r) (h' : OpD X f r') : OpD X f (fun d e S R => r d e S R ∨ r' d e S R) :=
  fun B pins s σ H S G x y v u d e R I A hx hy rx ry q => q.elim (h B pins s σ H S G x y v u d e R I A hx hy rx ry) (h' B pins s σ H S G x y v u d e R I A hx hy rx ry)
theorem OpD.imp {f : Value → Value → Sem Value} {r r' : R2D} (h : OpD X f r) (w : ∀ d e S R, r' d e S R → r d e S R) : OpD X f r' :=
  fun B pins s σ H S G x y v u d e R I A hx hy rx ry q => h B pins s σ H S G x y v u d e R I A hx hy rx ry (w _ _ _ _ q)
def d2 (r : R2D) (ta tb : RE) : RE := fun G S R => ta G S fun d S1 => tb G S1 fun e S2 => r d e S2 R
theorem bin2 (ha : JE X B a ta) (hb : JE X B b tb) {r : R2D} {pins : List (Addr × Obj)} {s : Shared} {σ : St} {H : Hp} {S : Own} {G : DG} {R : DVK} (I : Inv X pins σ H s) (A : At X.K B H S G σ) (h : d2 r ta tb G S R) {Q : Value → Shared → Prop} {f : Value → Value → Sem Value}
    (hf : ∀ v u s2 x y H2 S2 d e, Inv X pins σ H2 s2 → At X.K B H2 S2 G σ → Fr H (ov B S) H2 (ov B S2) → Rep X.K H2 (ov B S2) x d → Rep X.K H2 (ov B S2) y e → RelV x v → RelV y u → r d e S2 R → wpAny (model X.prog X.w) X.A (f v u) Q X.xe s2) :
    wpAny (model X.prog X.w) X.A (eval a X.env) (fun v s₁ => wpAny (model X.prog X.w) X.A (eval b X.env) (fun u s₂ => wpAny (model X.prog X.w) X.A (f v u) Q X.xe s₂) X.xe s₁) X.xe s := by
  refine thn (ha.run I A h) fun v s1 ⟨x, H1, I1, r1, d, S1, q1, f1, A1, h1⟩ => ?_
  refine thn (hb.run I1 A1 q1) fun u s2 ⟨y, H2, I2, r2, e, S2, q2, f2, A2, h2⟩ => ?_
  exact hf v u s2 x y H2 S2 d e I2 A2 (f1.trans f2) (h1.fr f2) h2 r1 r2 q2
theorem ep_imp {pins : List (Addr × Obj)} {σ : St} {Q Q' : VK} {u : Value} {s : Shared} (h : EP X pins σ Q u s) (w : ∀ v H, Q v H → Q' v H) : EP X pins σ Q' u s := let ⟨v, H, I, r, q⟩ := h; ⟨v, H, I, r, w v H q⟩
theorem de_op {op : Operator} {r : R2D} (ho : OpD X (binaryOp op) r) (ha : JE X B a ta) (hb : JE X B b tb) : JE X B (.BinOp a op b pos) (d2 r ta tb) := by
  refine JE.mk fun pins s σ H S G R I A q => ?_
  refine wpAny_BinOp (bin2 ha hb I A q fun v u s2 x y H2 S2 d e I2 A2 f hx hy rx ry q2 => ?_)
  exact thn (ho B pins s2 σ H2 S2 G x y v u d e R I2 A2 hx hy rx ry q2) fun w s3 z => ep_imp z fun v H' z => QL.trans f z
theorem de_cmp {op : CmpOp} {r : R2D} (ho : OpD X (compareOp op) r) (ha : JE X B a ta) (hb : JE X B b tb) (hm : behindInMarks op b = false) : JE X B (.Compare a [op] [b] pos) (d2 r ta tb) := by
  refine JE.mk fun pins s σ H S G R I A q => ?_
  refine wpAny_Compare1 (bin2 ha hb I A q fun v u s2 x y H2 S2 d e I2 A2 f hx hy rx ry q2 => ?_) hm
  exact thn (ho B pins s2 σ H2 S2 G x y v u d e R I2 A2 hx hy rx ry q2) fun w s3 z => ep_imp z fun v H' z => QL.trans f z
/-- a value's truth, where it is a bool -/
def dTb (t : RE) : RT := fun G S R => t G S fun d S' => ∃ k, d = .bl k ∧ R k S'
theorem ep_bool {pins : List (Addr × Obj)} {σ : St} {G : DG} {H : Hp} {S : Own} {R : Bool → Own → Prop} {u : Value} {s : Shared} (h : EP X pins σ (QL X.K B G σ H S fun d S' => ∃ k, d = .bl k ∧ R k S') u s) :
    wpAny (model X.prog X.w) X.A (truthy u) (TP X pins σ (QT X.K B G σ H S R)) X.xe s := by
  obtain ⟨v, H', I, r, d, S', ⟨k, e, q⟩, f, A, h⟩ := h
  subst e
  cases h
  cases r
  exact wpAny_truthy_bool ⟨H', I, S', q, f, A⟩
theorem dt_cmp {op : CmpOp} {r : R2D} (ho : OpD X (compareOp op) r) (ha : JE X B a ta) (hb : JE X B b tb) (hm : behindInMarks op b = false) : JT X B (.Compare a [op] [b] pos) (dTb (d2 r ta tb)) := by
  refine JT.mk fun pins s σ H S G R I A q => ?_
  refine wpAny_isTrue_Compare1 (thn (bin2 (R := fun d S' => ∃ k, d = .bl k ∧ R k S') (Q := EP X pins σ (QL X.K B G σ H S fun d S' => ∃ k, d = .bl k ∧ R k S')) ha hb I A q fun v u s2 x y H2 S2 d e I2 A2 f hx hy rx ry q2 => ?_) fun v s1 h1 => thn h1 fun u s2 h2 => thn h2 fun w s3 z => ep_bool z) hm
  exact thn (ho B pins s2 σ H2 S2 G x y v u d e _ I2 A2 hx hy rx ry q2) fun w s3 z => ep_imp z fun v H' z => QL.trans f z
/-- an expression whose value is a bool, as a test -/
theorem dt_val (h : JE X B e t) (he : ∀ whole, isTrue e X.env whole = (do let v ← whole; standAt e.pos; holding [v] (truthy v)) := by intro _; rfl) : JT X B e (dTb t) := by
  refine JT.mk fun pins s σ H S G R I A q => ?_
  exact isTrue_plain (thn (h.run I A q) fun v s1 z => ep_bool z) (he _)
def dAnd (t u : RT) : RT := fun G S R => t G S fun c S1 => if c = true then u G S1 R else R false S1
def dOr (t u : RT) : RT := fun G S R => t G S fun c S1 => if c = true then R true S1 else u G S1 R
def dNot (t : RT) : RT := fun G S R => t G S fun c S1 => R (!c) S1
abbrev JW (X : Cx) (B : Bs) (e : Expr) (t : RT) : Prop := PW X e (liftT X.K B t)
theorem QT.trans {K : PySem.W.Frag} {G : DG} {σ : St} {H H1 : Hp} {S S1 : Own} {R : Bool → Own → Prop} {v : Bool} {H' : Hp} (f : Fr H (ov B S) H1 (ov B S1)) (q : QT K B G σ H1 S1 R v H') : QT K B G σ H S R v H' := by
  obtain ⟨S', r, g, A⟩ := q
  exact ⟨S', r, f.trans g, A⟩
theorem dw_and1 (ha : JT X B a tt) : JW X B (.BoolOp .And [a] pos) tt := pw_and1 ha
theorem dw_or1 (ha : JT X B a tt) : JW X B (.BoolOp .Or [a] pos) tt := pw_or1 ha
theorem PW.mono {e : Expr} {t t' : TT} (h : PW X e t) (w : ∀ σ H Q, t' σ H Q → t σ H Q) : PW X e t' := ⟨fun wh pins s σ H Q I q => h.run wh pins s σ H Q I (w σ H Q q)⟩
theorem lift_and (σ : St) (H : Hp) (Q : Bool → Hp → Prop) (h : liftT X.K B (dAnd tt tu) σ H Q) : tAnd (liftT X.K B tt) (liftT X.K B tu) σ H Q := by
  obtain ⟨G, S, R, A, q, k⟩ := h
  refine ⟨G, S, _, A, q, fun c H1 z => ?_⟩
  obtain ⟨S1, q1, f1, A1⟩ := z
  cases c with
  | true => exact ⟨G, S1, R, A1, q1, fun b H' z => k b H' (QT.trans f1 z)⟩
  | false => exact k false H1 ⟨S1, q1, f1, A1⟩
theorem lift_or (σ : St) (H : Hp) (Q : Bool → Hp → Prop) (h : liftT X.K B (dOr tt tu) σ H Q) : tOr (liftT X.K B tt) (liftT X.K B tu) σ H Q := by
  obtain ⟨G, S, R, A, q, k⟩ := h
  refine ⟨G, S, _, A, q, fun c H1 z => ?_⟩
  obtain ⟨S1, q1, f1, A1⟩ := z
  cases c with
  | false => exact ⟨G, S1, R, A1, q1, fun b H' z => k b H' (QT.trans f1 z)⟩
  | true => exact k true H1 ⟨S1, q1, f1, A1⟩
theorem dw_and {rest : List Expr} (ha : JT X B a tt) (hb : JW X B (.BoolOp .And (b :: rest) pos) tu) : JW X B (.BoolOp .And (a :: b :: rest) pos) (dAnd tt tu) := PW.mono (pw_and ha hb) lift_and
theorem dw_or {rest : List Expr} (ha : JT X B a tt) (hb : JW X B (.BoolOp .Or (b :: rest) pos) tu) : JW X B (.BoolOp .Or (a :: b :: rest) pos) (dOr tt tu) := PW.mono (pw_or ha hb) lift_or
theorem dt_w {e : Expr} (h : JW X B e tt) : JT X B e tt := PW.pt h
theorem dt_not (ha : JT X B a tt) : JT X B (.UnaryOp .Not a pos) (dNot tt) := PT.mono (pt_not ha) fun σ H Q ⟨G, S, R, A, q, k⟩ => ⟨G, S, _, A, q, fun c H1 ⟨S1, q1, f1, A1⟩ => k _ H1 ⟨S1, q1, f1, A1⟩⟩
/-- and, or, not as values -/
def dAndV (ta tb : RE) : RE := fun G S R => ta G S fun d S1 => ∃ c, d = .bl c ∧ if c = true then tb G S1 R else R (.bl false) S1
def dOrV (ta tb : RE) : RE := fun G S R => ta G S fun d S1 => ∃ c, d = .bl c ∧ if c = true then R (.bl true) S1 else tb G S1 R
def dNotV (ta : RE) : RE := fun G S R => ta G S fun d S1 => ∃ c, d = .bl c ∧ R (.bl (!c)) S1
theorem de_one {op} (h : JE X B a ta) : JE X B (.BoolOp op [a] pos) ta := pe_one h
theorem de_and {rest : List Expr} (ha : JE X B a ta) (hb : JE X B (.BoolOp .And (b :: rest) pos) tb) : JE X B (.BoolOp .And (a :: b :: rest) pos) (dAndV ta tb) := PE.mono (pe_and ha hb) fun σ H Q ⟨G, S, R, A, q, k⟩ => by
  refine ⟨G, S, _, A, q, fun v H1 ⟨d, S1, ⟨c, e, q1⟩, f1, A1, h1⟩ => ?_⟩
  subst e; cases h1
  refine ⟨c, rfl, ?_⟩
  cases c with
  | true => exact ⟨G, S1, R, A1, q1, fun v H' z => k v H' (z.trans f1)⟩
  | false => exact k _ H1 ⟨.bl false, S1, q1, f1, A1, .bl false⟩
theorem de_or {rest : List Expr} (ha : JE X B a ta) (hb : JE X B (.BoolOp .Or (b :: rest) pos) tb) : JE X B (.BoolOp .Or (a :: b :: rest) pos) (dOrV ta tb) := PE.mono (pe_or ha hb) fun σ H Q ⟨G, S, R, A, q, k⟩ => by
  refine ⟨G, S, _, A, q, fun v H1 ⟨d, S1, ⟨c, e, q1⟩, f1, A1, h1⟩ => ?_⟩
  subst e; cases h1
  refine ⟨c, rfl, ?_⟩
  cases c with
  | false => exact ⟨G, S1, R, A1, q1, fun v H' z => k v H' (z.trans f1)⟩
  | true => exact k _ H1 ⟨.bl true, S1, q1, f1, A1, .bl true⟩
theorem de_not (ha : JE X B a ta) : JE X B (.UnaryOp .Not a pos) (dNotV ta) := PE.mono (pe_not ha) fun σ H Q ⟨G, S, R, A, q, k⟩ =>
  ⟨G, S, _, A, q, fun v H1 ⟨d, S1, ⟨c, e, q1⟩, f1, A1, h1⟩ => by subst e; cases h1; exact ⟨c, rfl, k _ H1 ⟨_, S1, q1, f1, A1, .bl _⟩⟩⟩
def dIf (t : RT) (ta tb : RE) : RE := fun G S R => t G S fun c S1 => if c = true then ta G S1 R else tb G S1 R
theorem de_if (hc : JT X B c tt) (ha : JE X B a ta) (hb : JE X B b tb) : JE X B (.IfExp c a b pos) (dIf tt ta tb) := PE.mono (pe_ifExp hc ha hb) fun σ H Q ⟨G, S, R, A, q, k⟩ => by
  refine ⟨G, S, _, A, q, fun c H1 ⟨S1, q1, f1, A1⟩ => ?_⟩
  cases c with
  | true => exact ⟨G, S1, R, A1, q1, fun v H' z => k v H' (z.trans f1)⟩
  | false => exact ⟨G, S1, R, A1, q1, fun v H' z => k v H' (z.trans f1)⟩
/-! ### argument lists, displays -/
def dNil : RA := fun _ S R => R [] S
def dCons (ta : RE) (tr : RA) : RA := fun G S R => ta G S fun d S1 => tr G S1 fun ds S2 => R (d :: ds) S2
theorem QA.trans {K : PySem.W.Frag} {G : DG} {σ : St} {H H1 : Hp} {S S1 : Own} {R : List D → Own → Prop} {v : List V} {H' : Hp} (f : Fr H (ov B S) H1 (ov B S1)) (q : QA K B G σ H1 S1 R v H') : QA K B G σ H S R v H' := by
  obtain ⟨d, S', r, g, A, h⟩ := q
  exact ⟨d, S', r, f.trans g, A, h⟩
theorem da_nil : JA X B [] dNil := PA.mono pa_nil fun σ H Q ⟨G, S, R, A, q, k⟩ => k [] H ⟨[], S, q, Fr.refl _ _, A, .nil⟩
theorem da_cons (ha : JE X B e ta) (hr : JA X B es tas) (hs : starEach (e :: es) X.env = (false, eval e X.env) :: starEach es X.env := by rfl) : JA X B (e :: es) (dCons ta tas) :=
  PA.mono (pa_cons ha hr hs) fun σ H Q ⟨G, S, R, A, q, k⟩ => by
    refine ⟨G, S, _, A, q, fun v H1 ⟨d, S1, q1, f1, A1, h1⟩ => ?_⟩
    refine ⟨G, S1, _, A1, q1, fun vs H2 ⟨ds, S2, q2, f2, A2, h2⟩ => ?_⟩
    exact k _ H2 ⟨d :: ds, S2, q2, f1.trans f2, A2, .cons (h1.fr f2) h2⟩
/-- (a, b, ..); [a, b, ..] frozen; [a, b, ..] in flight -/
def dTup (t : RA) : RE := fun G S R => t G S fun ds S1 => ds.length ≤ sizeLine ∧ R (.tup ds) S1
def dLst (t : RA) : RE := fun G S R => t G S fun ds S1 => ds.length ≤ sizeLine ∧ R (.lst ds) S1
def dLstO (t : RA) : RE := fun G S R => t G S fun ds S1 => ds.length ≤ sizeLine ∧ ∀ p, S1 p = none → R (.ref p) (S1.put p (.lst ds))
theorem de_tup {x1} (h : JA X B es tas) : JE X B (.Tuple es x1 pos) (dTup tas) := PE.mono (pe_tup h) fun σ H Q ⟨G, S, R, A, q, k⟩ =>
  ⟨G, S, _, A, q, fun vs H1 ⟨ds, S1, ⟨z, q1⟩, f1, A1, h1⟩ => ⟨by rw [h1.length]; exact z, fun p hp => k _ _ (QL.trans f1 (QL.laid A1 hp q1 (.tup (tupAt_new (A1.own.free hp)) (h1.fr (fr_laid hp)))))⟩⟩
theorem de_lst (h : JA X B es tas) : JE X B (.List es pos) (dLst tas) := PE.mono (pe_lst h) fun σ H Q ⟨G, S, R, A, q, k⟩ =>
  ⟨G, S, _, A, q, fun vs H1 ⟨ds, S1, ⟨z, q1⟩, f1, A1, h1⟩ => ⟨by rw [h1.length]; exact z, fun p hp => k _ _ (QL.trans f1 (QL.laid A1 hp q1 (.lst (lstAt_new (A1.own.free hp)) (h1.fr (fr_laid hp)))))⟩⟩
theorem de_lstO (h : JA X B es tas) : JE X B (.List es pos) (dLstO tas) := PE.mono (pe_lst h) fun σ H Q ⟨G, S, R, A, q, k⟩ =>
  ⟨G, S, _, A, q, fun vs H1 ⟨ds, S1, ⟨z, q1⟩, f1, A1, h1⟩ => ⟨by rw [h1.length]; exact z, fun p hp => k _ _ (QL.trans f1 (QL.laidO A1 hp (q1 p (A1.free hp).1) ⟨vs, upd_same, h1.fr (fr_laidO hp)⟩))⟩⟩
end
/-! ### statements -/
section
variable {X : Cx} {B : Bs} {st : Stmt} {sts rest : List Stmt} {e : Expr} {t : RS} {u : RS} {te : RE} {tt : RT} {pos : Pos}
def dNext : RS := fun D G S => D.nx G S
def dSeq (t u : RS) : RS := fun D G S => t { D with nx := u D } G S
theorem dss_nil : JSs X B [] dNext := PSs.mono pss_nil fun D σ H ⟨G, S, DD, A, q, k⟩ => k.nx G S σ H q (Fr.refl _ _) A
theorem dss_cons (h1 : JS X B st t) (h2 : JSs X B rest u) : JSs X B (st :: rest) (dSeq t u) := PSs.mono (pss_cons h1 h2) fun D σ H ⟨G, S, DD, A, q, k⟩ => by
  refine ⟨G, S, { DD with nx := u DD }, A, q, ⟨fun G' S' σ' H' z f A' => ⟨G', S', DD, A', z, k.after f⟩, k.rt, k.bk, k.ct⟩⟩
theorem dss_one (h1 : JS X B st t) : JSs X B [st] t := pss_one h1
def dBreak : RS := fun D G S => D.bk G S
def dCont : RS := fun D G S => D.ct G S
theorem ds_pass : JS X B (.Pass pos) dNext := PS.mono ps_pass fun D σ H ⟨G, S, DD, A, q, k⟩ => k.nx G S σ H q (Fr.refl _ _) A
theorem ds_break : JS X B (.Break pos) dBreak := PS.mono ps_break fun D σ H ⟨G, S, DD, A, q, k⟩ => k.bk G S σ H q (Fr.refl _ _) A
theorem ds_continue : JS X B (.Continue pos) dCont := PS.mono ps_continue fun D σ H ⟨G, S, DD, A, q, k⟩ => k.ct G S σ H q (Fr.refl _ _) A
def dDrop (te : RE) : RS := fun D G S => te G S fun _ S1 => D.nx G S1
theorem ds_expr (he : JE X B e te) (hs : swapsWith e none pos.line X.env = pure false := by rfl) : JS X B (.Expr e pos) (dDrop te) := PS.mono (ps_expr he hs) fun D σ H ⟨G, S, DD, A, q, k⟩ =>
  ⟨G, S, _, A, q, fun v H1 ⟨d, S1, q1, f1, A1, h1⟩ => k.nx G S1 σ H1 q1 f1 A1⟩
def dRet (te : RE) : RS := fun D G S => te G S D.rt
theorem ds_ret (he : JE X B e te) : JS X B (.Return (some e) pos) (dRet te) := PS.mono (ps_ret he) fun D σ H ⟨G, S, DD, A, q, k⟩ =>
  ⟨G, S, _, A, q, fun v H1 ⟨d, S1, q1, f1, A1, h1⟩ => k.rt d S1 v H1 q1 f1 A1.own A1.dis h1⟩
def dRetN : RS := fun D _ S => D.rt .non S
theorem ds_retN : JS X B (.Return none pos) dRetN := PS.mono ps_retN fun D σ H ⟨G, S, DD, A, q, k⟩ => k.rt .non S .non H q (Fr.refl _ _) A.own A.dis .non
def dIfS (c : RT) (t u : RS) : RS := fun D G S => c G S fun b S1 => if b = true then t D G S1 else u D G S1
theorem ds_if {c : Expr} {a b : List Stmt} (hc : JT X B c tt) (ha : JSs X B a t) (hb : JSs X B b u) : JS X B (.If c a b pos) (dIfS tt t u) := PS.mono (ps_if hc ha hb) fun D σ H ⟨G, S, DD, A, q, k⟩ => by
  refine ⟨G, S, _, A, q, fun b H1 ⟨S1, q1, f1, A1⟩ => ?_⟩
  cases b with
  | true => exact ⟨G, S1, DD, A1, q1, k.after f1⟩
  | false => exact ⟨G, S1, DD, A1, q1, k.after f1⟩
def dNever : RS := fun _ _ _ => False
theorem ds_never : JS X B st dNever := PS.mono ps_never fun D σ H ⟨G, S, DD, A, q, k⟩ => q.elim
theorem dss_never : JSs X B sts dNever := PSs.mono pss_never fun D σ H ⟨G, S, DD, A, q, k⟩ => q.elim
def dSet (i : Nat) (te : RE) : RS := fun D G S => te G S fun d S1 => D.nx (G.set i (some d)) S1
theorem ds_set {i : Nat} {x : Str} {pos' : Pos} (hN : X.N.Nodup) (hi : X.N[i]? = some x) (hx : Loc X.env.scope x) (he : JE X B e te) (hs : swapsWith e (some (.Name x pos')) pos.line X.env = pure false := by rfl) (hf : X.fn x = true ∨ X.env.scope.names.lookup x = some .local := by first | exact .inl rfl | exact .inr rfl | assumption) :
    JS X B (.Assign [.Name x pos'] e pos) (dSet i te) := PS.mono (ps_set hN hi hx he hs hf) fun D σ H ⟨G, S, DD, A, q, k⟩ =>
  ⟨G, S, _, A, q, fun v H1 ⟨d, S1, q1, f1, A1, h1⟩ => k.nx _ S1 _ H1 q1 f1 ⟨A1.own, A1.env.set i h1, A1.fr, A1.dis⟩⟩
end
/-! ### defs -/
abbrev DXK := Value → List (Str × D) → Own → Prop
abbrev DSp := List D → Own → DVK → DXK → Prop
/-- an exception's fields -/
def ExcAt (K : PySem.W.Frag) (H : Hp) (S : Own) (dx : Option Addr) (fs : List (Str × D)) : Prop :=
  (dx = none ∧ fs = []) ∨ ∃ a gs, dx = some a ∧ H a = some (.xd gs) ∧ S a = none ∧ Paired (fun (p : Str × V) (q : Str × D) => p.1 = q.1 ∧ Rep K H S p.2 q.2) gs fs
def liftSp (K : PySem.W.Frag) (sp : DSp) : Sp := fun vs H Q E => ∃ ds S Z R RX, Reps K H (over S Z) vs ds ∧ Owns K H (over S Z) ∧ Dis S Z ∧ sp ds S R RX ∧
  (∀ v d H' S', R d S' → Fr H (over S Z) H' (over S' Z) → Owns K H' (over S' Z) → Dis S' Z → Rep K H' (over S' Z) v d → Q v H') ∧
  ∀ cls fs dx H' S', RX cls fs S' → Fr H (over S Z) H' (over S' Z) → Owns K H' (over S' Z) → Dis S' Z → ExcAt K H' (over S' Z) dx fs → E cls dx H'
def startD (N : List Str) (ds : List D) : DG := ds.map some ++ List.replicate (N.length - ds.length) none
theorem renv_start {K : PySem.W.Frag} {H : Hp} {S : Own} {N : List Str} : ∀ {vs : List V} {ds : List D}, Reps K H S vs ds → REnv K H S (startD N ds) (L2.start N vs) := fun {vs ds} r => by
  have hl := r.length
  refine ⟨by simp [startD, L2.start, hl], fun i d e => ?_⟩
  unfold startD at e
  unfold L2.start
  by_cases hi : i < ds.length
  · have hi1 : i < (ds.map some).length := by rw [List.length_map]; exact hi
    have hi2 : i < (vs.map some).length := by rw [List.length_map, hl]; exact hi
    rw [List.getElem?_append_left hi1, List.getElem?_map] at e
    rw [List.getElem?_append_left hi2, List.getElem?_map]
    have e' : ds[i]? = some d := by
      cases q : ds[i]? with
      | none => rw [q] at e; cases e
      | some z => rw [q] at e; simpa using e
    obtain ⟨v, h1, h2⟩ := r.get e'
    exact ⟨v, by rw [h1]; rfl, h2⟩
  · rw [List.getElem?_append_right (by simpa using hi)] at e
    have h := List.mem_of_getElem? e
    rw [List.mem_replicate] at h
    exact nomatch h.2
section
variable {P : Program} {w : World} {K : PySem.W.Frag} {mg : Str → Option Value} {base : Heap}
/-- THE RULE for a def that lets nothing out -/
theorem okD {x qual : Str} {st : Stmt} {f : Addr} {fd : FuncData} {N ps : List Str} {k : Nat} {sp : DSp} (F : Fun K x qual st f fd) (Sc : FnScope N ps (defScope st)) (len : ∀ ds S R E, sp ds S R E → ds.length = ps.length)
    (hbody : ∀ (cdv : Value) (A : Around) (outer : List Env) (s : Shared) (H : Hp) (E : XK) (B : Bs), Room k (A.deeper (envOfC qual (defScope st) s.heap.objs.size f cdv)) →
      ∃ t, JSs (cxOf CX0 P w K mg base N qual (defScope st) f cdv A outer s H E).nox B (defBody st) t ∧ ∀ ds R RX, sp ds B.s R RX → t { nx := fun _ S' => R .non S', rt := R } (startD N ds) B.s) : FnOk P w K mg base CX0 (k + 1) f fd ps (liftSp K sp) := by
  refine F.ok Sc (fun vs H Q E h => ?_) (fun cdv A outer s H vs Q E hr h => ?_)
  · obtain ⟨ds, S, Z, R, RX, r, _, _, q, _⟩ := h
    rw [r.length]; exact len _ _ _ _ q
  · obtain ⟨ds, S, Z, R, RX, r, W, dis, q, k1, k2⟩ := h
    obtain ⟨t, ht, hq⟩ := hbody cdv A outer s H E ⟨H, S, Z⟩ hr
    refine ⟨_, ht, startD N ds, S, _, ⟨W, renv_start r, Fr.refl _ _, dis⟩, hq ds R RX q, ⟨fun G' S' σ' H' z f A' => ?_, fun d S' v H' z f W' dd h => ?_, fun _ _ _ _ z => z.elim, fun _ _ _ _ z => z.elim⟩⟩
    · exact k1 .non .non H' S' z f A'.own A'.dis .non
    · exact k1 v d H' S' z f W' dd h
end
section
variable {X : Cx} {B : Bs} {k : Nat} {f : Addr} {fd : FuncData} {ps : List Str} {sp : DSp} {dvs : List V} {dds : List D} {dvals : List Value} {x : Str} {p pos : Pos} {e : Expr} {es : List Expr} {ta : RA}
def dCall (sp : DSp) (dds : List D) (t : RA) : RE := fun G S R => t G S fun ds S1 => sp (ds ++ dds) S1 R fun _ _ _ => False
theorem lift_call (hr : ∀ H S, Reps X.K H S dvs dds) (σ : St) (H : Hp) (Q : VK) (h : liftE X.K B (dCall sp dds ta) σ H Q) : tCall (liftSp X.K sp) dvs E0 (liftA X.K B ta) σ H Q := by
  obtain ⟨G, S, R, A, q, k⟩ := h
  refine ⟨G, S, _, A, q, fun vs H1 ⟨ds, S1, q1, f1, A1, h1⟩ => ?_⟩
  refine ⟨ds ++ dds, S1, B.z, R, _, h1.append (hr _ _), A1.own, A1.dis, q1, fun v d H' S' z f W dd h => ?_, fun _ _ _ _ _ z => z.elim⟩
  exact k v H' ⟨d, S', z, f1.trans f, A1.go f W dd, h⟩
theorem de_call (F : FnOk X.prog X.w X.K X.mg X.base CX0 k f fd ps (liftSp X.K sp)) (hr : Room k X.A) (hg : Gl X x) (hm : X.mg x = some (.ref f)) (hk : PySem.W.keepIn X.K (.ref f) = true) (hb : Binds X.K fd ps []) (ha : JA X B (e :: es) ta)
    (hdb : (x == ("__debug__" : Str)) = false := by decide) (he : starEach (e :: es) X.env = (false, eval e X.env) :: starEach es X.env := by rfl) (hpl : (backTo pos (starEach es X.env)).any (·.1) = false := by rfl) :
    JE X B (.Call (.Name x p) (e :: es) [] pos) (dCall sp [] ta) := PE.mono (pe_call F hr hg hm hk hb .nil pass0 ha hdb he hpl) (lift_call fun _ _ => .nil)
end
end DL
namespace DL
open PySem PySem.Spec PyProof.Rows L2
/-! ### values' shapes -/
section
variable {K : PySem.W.Frag} {H : Hp} {S : Own} {x : V}
theorem rep_int {i : Int} (h : Rep K H S x (.int i)) : x = .int i := by cases h; rfl
theorem rep_bl {i : Bool} (h : Rep K H S x (.bl i)) : x = .bl i := by cases h; rfl
theorem rep_str {i : Str} (h : Rep K H S x (.str i)) : x = .str i := by cases h; rfl
theorem rep_ref {a : Addr} (h : Rep K H S x (.ref a)) : x = .ref a := by cases h; rfl
theorem rep_tup {ds : List D} (h : Rep K H S x (.tup ds)) : ∃ a vs, x = .ref a ∧ TupAt H S a vs ∧ Reps K H S vs ds := by cases h with | tup h r => exact ⟨_, _, rfl, h, r⟩
theorem rep_lst {ds : List D} (h : Rep K H S x (.lst ds)) : ∃ a vs, x = .ref a ∧ LstAt H S a vs ∧ Reps K H S vs ds := by cases h with | lst h r => exact ⟨_, _, rfl, h, r⟩
theorem rep_dct {es : List (D × D)} (h : Rep K H S x (.dct es)) : ∃ a, x = .ref a ∧ ((∃ kvs, DkAt H S a kvs ∧ RepK K H S kvs es) ∨ ∃ kvs, DtAt H S a kvs ∧ RepT K H S kvs es) := by
  cases h with
  | dk h r => exact ⟨_, rfl, .inl ⟨_, h, r⟩⟩
  | dt h r => exact ⟨_, rfl, .inr ⟨_, h, r⟩⟩
theorem reps_ints : ∀ {vs : List V} {ns : List Int}, Reps K H S vs (ns.map D.int) → vs = ns.map V.int
  | _, [], .nil => rfl
  | _, n :: ns, .cons h r => by rw [rep_int h, reps_ints r]; rfl
theorem reps_strs : ∀ {vs : List V} {ns : List Str}, Reps K H S vs (ns.map D.str) → vs = ns.map V.str
  | _, [], .nil => rfl
  | _, n :: ns, .cons h r => by rw [rep_str h, reps_strs r]; rfl
end
section
variable {X : Cx} {pins : List (Addr × Obj)} {σ : St} {H : Hp} {s : Shared} {l b : Addr} {xs ys : List V}
theorem lstR (I : Inv X pins σ H s) (h : Rd H l (.lst xs)) : xs.length ≤ sizeLine ∧ ∃ (its : List Value) (n : Nat), Vals xs its ∧ xs.length = its.length ∧ s.heap.get? l = some { cls := .type "list", data := .seq its.toArray n } := by
  obtain ⟨z, its, n, r, e⟩ := h.ok I.hok
  exact ⟨z, its, n, r, r.length, e⟩
end
/-! ### + -/
section
variable {X : Cx}
def rCatR : R2 := fun x y H Q => ∃ l b xs zs, x = .ref l ∧ y = .ref b ∧ Rd H l (.lst xs) ∧ Rd H b (.lst zs) ∧ xs.length + zs.length ≤ sizeLine ∧ ∀ p, H p = none → Q (.ref p) (upd H p (.lst (xs ++ zs)))
theorem op_catR : OpR X (binaryOp .Add) rCatR := by
  intro pins s σ H x y v u Q I rx ry h
  obtain ⟨l, b, xs, zs, rfl, rfl, hH, hB, hz, q⟩ := h
  cases rx
  cases ry
  obtain ⟨z, its, n, r, hl, e⟩ := lstR I hH
  obtain ⟨z2, its2, n2, r2, hl2, e2⟩ := lstR I hB
  refine PySem.P.add_list e e2 ?_ (by rw [List.size_toArray, List.size_toArray]; omega)
  have ea : its.toArray ++ its2.toArray = (its ++ its2).toArray := by simp
  rw [ea]
  exact ⟨.ref _, _, I.lnew (t' := s.toks) (r.append r2) (by rw [List.length_append]; omega), rfl, q _ I.fresh⟩
def rAddD : R2D
  | .int i, .int j, S, R => R (.int (i + j)) S
  | .str x, .str y, S, R => x.length + y.length ≤ sizeLine ∧ R (.str (x ++ y)) S
  | .lst xs, .lst ys, S, R => xs.length + ys.length ≤ sizeLine ∧ R (.lst (xs ++ ys)) S
  | .tup xs, .tup ys, S, R => xs.length + ys.length ≤ sizeLine ∧ R (.tup (xs ++ ys)) S
  | _, _, _, _ => False
theorem od_add : OpD X (binaryOp .Add) rAddD := by
  intro B pins s σ H S G x y v u d e R I A hx hy rx ry q
  cases d <;> cases e <;> try exact q.elim
  · cases hx; cases hy
    exact op_add pins s σ H _ _ v u _ I rx ry ⟨_, _, rfl, rfl, QL.here A q (.int _)⟩
  · cases hx; cases hy
    exact op_add_str pins s σ H _ _ v u _ I rx ry ⟨_, _, rfl, rfl, q.1, QL.here A q.2 (.str _)⟩
  · obtain ⟨a, vs, rfl, ha, r1⟩ := rep_tup hx
    obtain ⟨b, us, rfl, hb, r2⟩ := rep_tup hy
    refine op_catA pins s σ H _ _ v u _ I rx ry ⟨a, b, vs, us, rfl, rfl, ha.sq, hb.sq, by rw [r1.length, r2.length]; exact q.1, fun e => ?_, fun _ e => ?_, fun _ _ p hp => ?_⟩
    · subst e; cases r1; exact QL.here A q.2 hy
    · subst e; cases r2
      have q2 := q.2
      rw [List.append_nil] at q2
      exact QL.here A q2 hx
    · exact QL.laid A hp q.2 (.tup (tupAt_new (A.own.free hp)) ((r1.append r2).fr (fr_laid hp)))
  · obtain ⟨a, vs, rfl, ha, r1⟩ := rep_lst hx
    obtain ⟨b, us, rfl, hb, r2⟩ := rep_lst hy
    refine op_catR pins s σ H _ _ v u _ I rx ry ⟨a, b, vs, us, rfl, rfl, ha.1, hb.1, by rw [r1.length, r2.length]; exact q.1, fun p hp => ?_⟩
    exact QL.laid A hp q.2 (.lst (lstAt_new (A.own.free hp)) ((r1.append r2).fr (fr_laid hp)))
/-! ### ints -/
def rI2 (C : Int → Int → Prop) (g : Int → Int → D) : R2D
  | .int i, .int j, S, R => C i j ∧ R (g i j) S
  | _, _, _, _ => False
theorem odI {f : Value → Value → Sem Value} {C : Int → Int → Prop} {g : Int → Int → V} {g' : Int → Int → D} (h : OpR X f (rI C g)) (hg : ∀ K H S i j, Rep K H S (g i j) (g' i j)) : OpD X f (rI2 C g') := by
  intro B pins s σ H S G x y v u d e R I A hx hy rx ry q
  cases d <;> cases e <;> try exact q.elim
  cases hx; cases hy
  exact h pins s σ H _ _ v u _ I rx ry ⟨_, _, rfl, rfl, q.1, QL.here A q.2 (hg _ _ _ _ _)⟩
def rI1 (g : Int → Int → D) : R2D
  | .int i, .int j, S, R => R (g i j) S
  | _, _, _, _ => False
theorem odI0 {f : Value → Value → Sem Value} {g : Int → Int → V} {g' : Int → Int → D} (h : OpR X f (rI0 g)) (hg : ∀ K H S i j, Rep K H S (g i j) (g' i j)) : OpD X f (rI1 g') := by
  intro B pins s σ H S G x y v u d e R I A hx hy rx ry q
  cases d <;> cases e <;> try exact q.elim
  cases hx; cases hy
  exact h pins s σ H _ _ v u _ I rx ry ⟨_, _, rfl, rfl, QL.here A q (hg _ _ _ _ _)⟩
theorem od_sub : OpD X (binaryOp .Sub) (rI1 fun i j => .int (i - j)) := odI0 op_sub fun _ _ _ _ _ => .int _
theorem od_mod : OpD X (binaryOp .Mod) (rI2 (fun _ j => 0 < j) fun i j => .int (i % j)) := odI op_mod fun _ _ _ _ _ => .int _
theorem od_fdiv : OpD X (binaryOp .FloorDiv) (rI2 CDiv fun i j => .int (i / j)) := odI op_fdiv fun _ _ _ _ _ => .int _
theorem od_lt : OpD X (compareOp .Lt) (rI1 fun i j => .bl (decide (i < j))) := odI0 op_lt fun _ _ _ _ _ => .bl _
theorem od_le : OpD X (compareOp .LtE) (rI1 fun i j => .bl (decide (i ≤ j))) := odI0 op_le fun _ _ _ _ _ => .bl _
theorem od_gt : OpD X (compareOp .Gt) (rI1 fun i j => .bl (decide (j < i))) := odI0 op_gt fun _ _ _ _ _ => .bl _
theorem od_ge : OpD X (compareOp .GtE) (rI1 fun i j => .bl (decide (j ≤ i))) := odI0 op_ge fun _ _ _ _ _ => .bl _
theorem iod_add : OpD X (inplaceOp .Add) (rI1 fun i j => .int (i + j)) := odI0 iop_add fun _ _ _ _ _ => .int _
/-! ### * -/
def rRepR : R2 := fun x y H Q => ∃ l k xs, x = .ref l ∧ y = .int k ∧ Rd H l (.lst xs) ∧ -(2 ^ 63) ≤ k ∧ k < 2 ^ 63 ∧ xs.length * k.toNat ≤ sizeLine ∧
  ∀ p, H p = none → Q (.ref p) (upd H p (.lst (List.replicate k.toNat xs).flatten))
theorem op_repR : OpR X (binaryOp .Mult) rRepR := by
  intro pins s σ H x y v u Q I rx ry h
  obtain ⟨l, k, xs, rfl, rfl, hH, h1, h2, hz, q⟩ := h
  cases rx
  obtain ⟨t, rfl⟩ := ry
  obtain ⟨z, its, n, r, hl, e⟩ := lstR I hH
  have hlen : its.toArray.size * k.toNat ≤ sizeLine := by rw [List.size_toArray, ← hl]; exact hz
  have hcap : ¬ its.toArray.size * k.toNat > (2 ^ 63 - 1) / 8 := by
    have : (sizeLine : Nat) ≤ (2 ^ 63 - 1) / 8 := by decide
    omega
  have hfit : ¬ (!Builtin.List.listFitsIndex k) = true := by
    rw [fitsIndex_both h1 h2]
    exact Bool.false_ne_true
  have hlong : ¬ Builtin.List.listTooLong (its.toArray.size * k.toNat) = true := by
    rw [notLongL hlen]
    exact Bool.false_ne_true
  have hnew : List.foldl (fun x1 x2 => x1 ++ x2) #[] (List.replicate (if its.toArray.isEmpty = true then 0 else k.toNat) its.toArray) = (List.replicate k.toNat its).flatten.toArray := by
    have f0 : ∀ m : Nat, List.foldl (fun x1 x2 => x1 ++ x2) #[] (List.replicate m its.toArray) = (List.replicate m its).flatten.toArray := fun m => by
      have := foldl_rep its m []
      rw [List.nil_append] at this
      exact this
    rw [f0]
    cases its with
    | nil => simp
    | cons a r' => rw [if_neg (by simp)]
  refine wpAny_binaryOp_repeat_ref (T := "list") (U := "int") (by decide) ⟨_, e, rfl⟩ (fun s' => typeIs_int s' k t) noFill_list_mul F.fills_int_mul F.slot_int_rmul repeat_list F.slot_int_index.lookup
    (call_meets F.slot_int_rmul (typeIs_int s k t) F.entry_int_rmul (F.args_int_rmul_2 _ _) (int___rmul___int_list k t l its.toArray n)
      ⟨e, rfl, ⟨_, e, rfl⟩, call_meets F.slot_list_mul ⟨_, e, rfl⟩ F.entry_list_mul (F.args_list_mul_2 _ _) (AutoListH.list___mul___list_int_3 l its.toArray n k t hfit hcap hlong) ⟨e, ?_⟩⟩)
  rw [hnew]
  exact ⟨.ref _, _, I.lnew (t' := s.toks) (r.rep k.toNat) (by rw [PyProof.Rows.lm_len_rep_flat, Nat.mul_comm]; exact hz), rfl, q _ I.fresh⟩
end
section
open PySem.AutoSeq1 (wpAny_loadPart')
open PySem.MeetsSeq PySem.MeetsSeq2 PySem.MeetsSeq3
theorem tuple_mul_one (l : Addr) (items : Array Value) (n : Nat) (dd : Option Addr) (sl : Array (Option Value)) (x : Int) (u : Tok) (c0 : (decide (x < -(2 ^ 63)) || decide (x ≥ 2 ^ 63)) = false) (c1 : (items.isEmpty || x == 1) = true) :
    Meets (Builtin.«tuple.__mul__» ⟨[.ref l, .int x u], []⟩) (fun _ R s => s.heap.get? l = some { cls := .type "tuple", dict := dd, data := .seq items n, slots := sl } ∧ R (.ok (.ret (Value.ref l))) s) :=
  .of_wp fun prog w A R s h => by
    obtain ⟨hp, g, d, tk, os⟩ := s
    obtain ⟨hl, h⟩ := h
    have f1 := AutoSeq1.idx_int
    wp_walk using wpAny_loadPart' hl
    repeat (first
      | (refine wpAny_ite_false (decide_eq_false (by rw [c0]; exact Bool.false_ne_true)) ?_; wp_walk using wpAny_loadPart' hl)
      | (refine wpAny_ite_true (decide_eq_true c1) ?_; wp_walk using wpAny_loadPart' hl))
    exact ⟨_, rfl, h⟩
theorem tuple_mul_none (l : Addr) (items : Array Value) (n : Nat) (dd : Option Addr) (sl : Array (Option Value)) (x : Int) (u : Tok) (c0 : (decide (x < -(2 ^ 63)) || decide (x ≥ 2 ^ 63)) = false) (c1 : (items.isEmpty || x == 1) = false) (c2 : (decide (x ≤ 0) || items.isEmpty) = true) :
    Meets (Builtin.«tuple.__mul__» ⟨[.ref l, .int x u], []⟩) (fun _ R s => s.heap.get? l = some { cls := .type "tuple", dict := dd, data := .seq items n, slots := sl } ∧
      R (.ok (.ret (Value.ref s.heap.objs.size))) { s with heap := s.heap.push { cls := Value.type "tuple", data := Data.seq #[] }, toks := s.toks }) :=
  .of_wp fun prog w A R s h => by
    obtain ⟨hp, g, d, tk, os⟩ := s
    obtain ⟨hl, h⟩ := h
    have f1 := AutoSeq1.idx_int
    wp_walk using wpAny_loadPart' hl
    repeat (first
      | (refine wpAny_ite_false (decide_eq_false (by rw [c0]; exact Bool.false_ne_true)) ?_; wp_walk using wpAny_loadPart' hl)
      | (refine wpAny_ite_false (decide_eq_false (by rw [c1]; exact Bool.false_ne_true)) ?_; wp_walk using wpAny_loadPart' hl)
      | (refine wpAny_ite_true (decide_eq_true c2) ?_; wp_walk using wpAny_loadPart' hl))
    exact ⟨_, rfl, h⟩
end
section
variable {X : Cx}
/-- t * k for k of 0 and 1 too -/
def rRepA (K : PySem.W.Frag) : R2 := fun x y H Q => ∃ l k xs, x = .ref l ∧ y = .int k ∧ SqT K H l xs ∧ 0 ≤ k ∧ k ≤ 1000 ∧ xs.length ≤ 1000 ∧ (xs = [] ∨ k = 1 → Q (.ref l) H) ∧ (¬ (xs = [] ∨ k = 1) → ∀ p, H p = none → Q (.ref p) (upd H p (.tup (List.replicate k.toNat xs).flatten)))
theorem op_repA : OpR X (binaryOp .Mult) (rRepA X.K) := by
  intro pins s σ H x y v u Q I rx ry h
  obtain ⟨l, k, xs, rfl, rfl, hT, h1, h2, hz, q1, q2⟩ := h
  have c0 : (decide (k < -(2 ^ 63)) || decide (k ≥ 2 ^ 63)) = false := by
    rw [decide_eq_false (by omega), decide_eq_false (by omega)] <;> rfl
  by_cases hc : xs = [] ∨ k = 1
  · cases rx
    obtain ⟨t, rfl⟩ := ry
    obtain ⟨its, r, ⟨⟨cls, dd, data, sl⟩, ho, hcl, n, hd⟩, hs⟩ := I.tuple hT
    simp only at hcl hd
    subst hcl hd
    have c1 : (its.toArray.isEmpty || k == 1) = true := by
      rcases hc with e | e
      · subst e; cases r; rfl
      · rw [e]; simp
    exact wpAny_binaryOp_repeat_ref (T := "tuple") (U := "int") (by decide) ⟨_, ho, rfl⟩ (fun s' => typeIs_int s' k t) noFill_tuple_mul F.fills_int_mul F.slot_int_rmul repeat_tuple F.slot_int_index.lookup
      (call_meets F.slot_int_rmul (typeIs_int s k t) F.entry_int_rmul (F.args_int_rmul_2 _ _) (int_rmul_tuple k t l its.toArray n dd sl)
        ⟨ho, rfl, ⟨_, ho, rfl⟩, call_meets F.slot_tuple_mul ⟨_, ho, rfl⟩ F.entry_tuple_mul (F.args_tuple_mul_2 _ _) (tuple_mul_one l its.toArray n dd sl k t c0 c1) ⟨ho, .ref l, H, I, rfl, q1 hc⟩⟩)
  · by_cases h0 : k = 0
    · cases rx
      obtain ⟨t, rfl⟩ := ry
      obtain ⟨its, r, ⟨⟨cls, dd, data, sl⟩, ho, hcl, n, hd⟩, hs⟩ := I.tuple hT
      simp only at hcl hd
      subst hcl hd
      subst h0
      have c1 : (its.toArray.isEmpty || (0 : Int) == 1) = false := by
        cases its with
        | nil => cases r; exact absurd (.inl rfl) hc
        | cons a b => rfl
      refine wpAny_binaryOp_repeat_ref (T := "tuple") (U := "int") (by decide) ⟨_, ho, rfl⟩ (fun s' => typeIs_int s' 0 t) noFill_tuple_mul F.fills_int_mul F.slot_int_rmul repeat_tuple F.slot_int_index.lookup
        (call_meets F.slot_int_rmul (typeIs_int s 0 t) F.entry_int_rmul (F.args_int_rmul_2 _ _) (int_rmul_tuple 0 t l its.toArray n dd sl)
          ⟨ho, rfl, ⟨_, ho, rfl⟩, call_meets F.slot_tuple_mul ⟨_, ho, rfl⟩ F.entry_tuple_mul (F.args_tuple_mul_2 _ _) (tuple_mul_none l its.toArray n dd sl 0 t c0 c1 (by simp)) ⟨ho, ?_⟩⟩)
      refine ⟨.ref s.heap.objs.size, _, I.laid (t' := s.toks) (o := .tup (List.replicate (Int.toNat 0) xs).flatten) (fun b ob q => Heap.get?_push_of_some _ q) (Nat.le_refl _) ?_, rfl, q2 hc _ (I.hok.fresh (Nat.le_refl _))⟩
      exact ⟨Nat.zero_le _, [], .nil, IsTup.new _ _⟩
    · exact op_repT pins s σ H _ _ v u Q I rx ry ⟨l, k, xs, rfl, rfl, hT, fun e => hc (.inl e), by omega, h2, hz, q2 hc⟩
def rMulD : R2D
  | .int i, .int j, S, R => CMul i j ∧ R (.int (i * j)) S
  | .lst xs, .int k, S, R => (-(2 ^ 63) ≤ k ∧ k < 2 ^ 63 ∧ xs.length * k.toNat ≤ sizeLine) ∧ R (.lst (List.replicate k.toNat xs).flatten) S
  | .tup xs, .int k, S, R => (0 ≤ k ∧ k ≤ 1000 ∧ xs.length ≤ 1000) ∧ R (.tup (List.replicate k.toNat xs).flatten) S
  | _, _, _, _ => False
theorem flat_nil {α : Type} : ∀ k : Nat, (List.replicate k ([] : List α)).flatten = []
  | 0 => rfl
  | k + 1 => by rw [List.replicate_succ, List.flatten_cons, List.nil_append, flat_nil k]
theorem od_mul : OpD X (binaryOp .Mult) rMulD := by
  intro B pins s σ H S G x y v u d e R I A hx hy rx ry q
  cases d <;> cases e <;> try exact q.elim
  · cases hx; cases hy
    exact op_mul pins s σ H _ _ v u _ I rx ry ⟨_, _, rfl, rfl, q.1, QL.here A q.2 (.int _)⟩
  · rename_i ds k
    obtain ⟨a, vs, rfl, ha, r1⟩ := rep_tup hx
    cases hy
    obtain ⟨⟨h1, h2, h3⟩, q⟩ := q
    refine op_repA pins s σ H _ _ v u _ I rx ry ⟨a, k, vs, rfl, rfl, ha.sq, h1, h2, by rw [r1.length]; exact h3, fun e => ?_, fun _ p hp => ?_⟩
    · have e2 : (List.replicate k.toNat ds).flatten = ds := by
        rcases e with e | e
        · subst e; cases r1; exact flat_nil _
        · subst e; show (List.replicate 1 ds).flatten = ds; simp
      rw [e2] at q
      exact QL.here A q hx
    · exact QL.laid A hp q (.tup (tupAt_new (A.own.free hp)) ((r1.rep _).fr (fr_laid hp)))
  · rename_i ds k
    obtain ⟨a, vs, rfl, ha, r1⟩ := rep_lst hx
    cases hy
    obtain ⟨⟨h1, h2, h3⟩, q⟩ := q
    refine op_repR pins s σ H _ _ v u _ I rx ry ⟨a, k, vs, rfl, rfl, ha.1, h1, h2, by rw [r1.length]; exact h3, fun p hp => ?_⟩
    exact QL.laid A hp q (.lst (lstAt_new (A.own.free hp)) ((r1.rep _).fr (fr_laid hp)))
end
end DL
namespace DL
open PySem PySem.Spec PyProof.Rows L2
/-! ### == of data -/
mutual
def eqv : D → D → Bool
  | .non, .non => true
  | .bl a, .bl b => a == b
  | .bl a, .int j => (if a then 1 else 0) == j
  | .int i, .bl b => i == (if b then 1 else 0)
  | .int i, .int j => i == j
  | .str x, .str y => x == y
  | .ty a, .ty b => a == b
  | .tup xs, .tup ys => eqvs xs ys
  | .lst xs, .lst ys => eqvs xs ys
  | .dct xs, .dct ys => xs.length == ys.length && subs xs ys
  | .ref a, .ref b => a == b
  | _, _ => false
def eqvs : List D → List D → Bool
  | [], [] => true
  | x :: xs, y :: ys => eqv x y && eqvs xs ys
  | _, _ => false
def subs : List (D × D) → List (D × D) → Bool
  | [], _ => true
  | (k, v) :: r, ys => (match ys.find? (fun p => eqv k p.1) with | some p => eqv v p.2 | none => false) && subs r ys
end
/-! ### keys -/
def keyB1 : D → Bool
  | .int _ => true
  | .str _ => true
  | _ => false
def keyB : D → Bool
  | .tup ds => ds.all keyB1
  | d => keyB1 d
theorem keyB1_of : ∀ {d : D}, keyB1 d = true → ∃ k, d = keyD k
  | .int i, _ => ⟨.inl i, rfl⟩
  | .str x, _ => ⟨.inr x, rfl⟩
  | .non, h => nomatch h
  | .bl _, h => nomatch h
  | .ty _, h => nomatch h
  | .tup _, h => nomatch h
  | .lst _, h => nomatch h
  | .dct _, h => nomatch h
  | .ref _, h => nomatch h
theorem keysB_of : ∀ {ds : List D}, ds.all keyB1 = true → ∃ ks : List Key, ds = ks.map keyD
  | [], _ => ⟨[], rfl⟩
  | d :: ds, h => by
    rw [List.all_cons, Bool.and_eq_true] at h
    obtain ⟨k, rfl⟩ := keyB1_of h.1
    obtain ⟨ks, rfl⟩ := keysB_of h.2
    exact ⟨k :: ks, rfl⟩
theorem keyB_of {d : D} (h : keyB d = true) : (∃ k, d = keyD k) ∨ ∃ ks : List Key, d = .tup (ks.map keyD) := by
  cases d with
  | tup ds => obtain ⟨ks, rfl⟩ := keysB_of h; exact .inr ⟨ks, rfl⟩
  | int i => exact .inl ⟨.inl i, rfl⟩
  | str x => exact .inl ⟨.inr x, rfl⟩
  | _ => cases h
theorem eqv_key (a b : Key) : eqv (keyD a) (keyD b) = decide (a = b) := by
  cases a with
  | inl i =>
    cases b with
    | inl j =>
      show (i == j) = _
      by_cases e : i = j
      · subst e; simp
      · rw [beq_eq_false_iff_ne.mpr e, decide_eq_false (fun q => e (Sum.inl.inj q))]
    | inr y => exact (decide_eq_false (fun q => nomatch q)).symm
  | inr x =>
    cases b with
    | inl j => exact (decide_eq_false (fun q => nomatch q)).symm
    | inr y =>
      show (x == y) = _
      by_cases e : x = y
      · subst e; simp
      · rw [beq_eq_false_iff_ne.mpr e, decide_eq_false (fun q => e (Sum.inr.inj q))]
theorem eqvs_keys : ∀ a b : List Key, eqvs (a.map keyD) (b.map keyD) = decide (a = b)
  | [], [] => rfl
  | [], _ :: _ => rfl
  | _ :: _, [] => rfl
  | x :: xs, y :: ys => by
    show (eqv (keyD x) (keyD y) && eqvs (xs.map keyD) (ys.map keyD)) = _
    rw [eqv_key, eqvs_keys xs ys]
    by_cases e : x = y
    · subst e
      by_cases e2 : xs = ys
      · subst e2; simp
      · rw [decide_eq_false e2, decide_eq_false (fun q => e2 (List.cons.inj q).2), Bool.and_false]
    · rw [decide_eq_false e, decide_eq_false (fun q => e (List.cons.inj q).1), Bool.false_and]
theorem eqv_kt (a : Key) (b : List Key) : eqv (keyD a) (.tup (b.map keyD)) = false := by cases a <;> rfl
theorem eqv_tk (a : List Key) (b : Key) : eqv (.tup (a.map keyD)) (keyD b) = false := by cases b <;> rfl
theorem eqv_tt (a b : List Key) : eqv (.tup (a.map keyD)) (.tup (b.map keyD)) = decide (a = b) := eqvs_keys a b
def lookD (es : List (D × D)) (k : D) : Option D := (es.find? fun p => eqv k p.1).map (·.2)
def putD (es : List (D × D)) (k v : D) : List (D × D) := if (es.any fun p => eqv k p.1) = true then es.map (fun p => if eqv k p.1 = true then (p.1, v) else p) else es ++ [(k, v)]
def dropD (es : List (D × D)) (k : D) : List (D × D) := es.filter fun p => !eqv k p.1
def tupB : D → Bool
  | .tup _ => true
  | _ => false
/-- keys of one kind with the key -/
def kindD (es : List (D × D)) (k : D) : Bool := es.all fun p => tupB p.1 == tupB k
def OptRep (K : PySem.W.Frag) (H : Hp) (S : Own) : Option V → Option D → Prop
  | some v, some d => Rep K H S v d
  | none, none => True
  | _, _ => False
section
variable {K : PySem.W.Frag} {H : Hp} {S : Own}
theorem OptRep.isSome {o : Option V} {u : Option D} (h : OptRep K H S o u) : o.isSome = u.isSome := by
  cases o <;> cases u <;> first | rfl | exact h.elim
theorem OptRep.some_of {o : Option V} {d : D} (h : OptRep K H S o (some d)) : ∃ v, o = some v ∧ Rep K H S v d := by
  cases o with
  | none => exact h.elim
  | some v => exact ⟨v, rfl, h⟩
theorem OptRep.none_of {o : Option V} (h : OptRep K H S o none) : o = none := by
  cases o with
  | none => rfl
  | some v => exact h.elim
theorem RepK.look (k : Key) : ∀ {kvs : List (Key × V)} {es : List (D × D)}, RepK K H S kvs es → OptRep K H S (valV kvs k) (lookD es (keyD k))
  | _, _, .nil => trivial
  | _, _, .cons (k := j) (v := v) (d := d) (kvs := kvs) (es := es) h r => by
    have ih := RepK.look k r
    unfold lookD at ih ⊢
    rw [List.find?_cons]
    show OptRep K H S (valV ((j, v) :: kvs) k) (Option.map (·.2) (match eqv (keyD k) (keyD j) with | true => some (keyD j, d) | false => _))
    rw [eqv_key]
    by_cases e : j = k
    · subst e
      rw [decide_eq_true rfl, valV_pos rfl]
      exact h
    · rw [decide_eq_false (fun z => e z.symm), valV_neg e]
      exact ih
theorem RepT.look (k : List Key) : ∀ {kvs : List (List Key × V)} {es : List (D × D)}, RepT K H S kvs es → OptRep K H S (valV kvs k) (lookD es (.tup (k.map keyD)))
  | _, _, .nil => trivial
  | _, _, .cons (k := j) (v := v) (d := d) (kvs := kvs) (es := es) h r => by
    have ih := RepT.look k r
    unfold lookD at ih ⊢
    rw [List.find?_cons]
    show OptRep K H S (valV ((j, v) :: kvs) k) (Option.map (·.2) (match eqv (.tup (k.map keyD)) (.tup (j.map keyD)) with | true => some (_, d) | false => _))
    rw [eqv_tt]
    by_cases e : j = k
    · subst e
      rw [decide_eq_true rfl, valV_pos rfl]
      exact h
    · rw [decide_eq_false (fun z => e z.symm), valV_neg e]
      exact ih
theorem RepK.any (k : Key) : ∀ {kvs : List (Key × V)} {es : List (D × D)}, RepK K H S kvs es → (kvs.any fun kv => decide (kv.1 = k)) = es.any fun p => eqv (keyD k) p.1
  | _, _, .nil => rfl
  | _, _, .cons (k := j) h r => by
    rw [List.any_cons, List.any_cons, RepK.any k r, eqv_key]
    by_cases e : j = k
    · subst e; rfl
    · rw [decide_eq_false e, decide_eq_false (fun z => e z.symm)]
theorem RepT.any (k : List Key) : ∀ {kvs : List (List Key × V)} {es : List (D × D)}, RepT K H S kvs es → (kvs.any fun kv => decide (kv.1 = k)) = es.any fun p => eqv (.tup (k.map keyD)) p.1
  | _, _, .nil => rfl
  | _, _, .cons (k := j) h r => by
    rw [List.any_cons, List.any_cons, RepT.any k r, eqv_tt]
    by_cases e : j = k
    · subst e; rfl
    · rw [decide_eq_false e, decide_eq_false (fun z => e z.symm)]
theorem RepK.repl (k : Key) {y : V} {z : D} (hy : Rep K H S y z) : ∀ {kvs : List (Key × V)} {es : List (D × D)}, RepK K H S kvs es →
    RepK K H S (kvs.map fun kv => if kv.1 = k then (kv.1, y) else kv) (es.map fun p => if eqv (keyD k) p.1 = true then (p.1, z) else p)
  | _, _, .nil => .nil
  | _, _, .cons (k := j) h r => by
    rw [List.map_cons, List.map_cons]
    have ih := RepK.repl k hy r
    by_cases e : j = k
    · subst e
      rw [if_pos rfl, if_pos (by rw [eqv_key]; simp)]
      exact .cons hy ih
    · rw [if_neg e, if_neg (by rw [eqv_key]; simp; exact fun z => e z.symm)]
      exact .cons h ih
theorem RepT.repl (k : List Key) {y : V} {z : D} (hy : Rep K H S y z) : ∀ {kvs : List (List Key × V)} {es : List (D × D)}, RepT K H S kvs es →
    RepT K H S (kvs.map fun kv => if kv.1 = k then (kv.1, y) else kv) (es.map fun p => if eqv (.tup (k.map keyD)) p.1 = true then (p.1, z) else p)
  | _, _, .nil => .nil
  | _, _, .cons (k := j) h r => by
    rw [List.map_cons, List.map_cons]
    have ih := RepT.repl k hy r
    by_cases e : j = k
    · subst e
      rw [if_pos rfl, if_pos (by rw [eqv_tt]; simp)]
      exact .cons hy ih
    · rw [if_neg e, if_neg (by rw [eqv_tt]; simp; exact fun z => e z.symm)]
      exact .cons h ih
theorem RepK.app : ∀ {kvs : List (Key × V)} {es : List (D × D)} {kvs' : List (Key × V)} {es' : List (D × D)}, RepK K H S kvs es → RepK K H S kvs' es' → RepK K H S (kvs ++ kvs') (es ++ es')
  | _, _, _, _, .nil, s => s
  | _, _, _, _, .cons h r, s => .cons h (RepK.app r s)
theorem RepT.app : ∀ {kvs : List (List Key × V)} {es : List (D × D)} {kvs' : List (List Key × V)} {es' : List (D × D)}, RepT K H S kvs es → RepT K H S kvs' es' → RepT K H S (kvs ++ kvs') (es ++ es')
  | _, _, _, _, .nil, s => s
  | _, _, _, _, .cons h r, s => .cons h (RepT.app r s)
theorem RepK.put (k : Key) {y : V} {z : D} (hy : Rep K H S y z) {kvs : List (Key × V)} {es : List (D × D)} (r : RepK K H S kvs es) : RepK K H S (putK kvs k y) (putD es (keyD k) z) := by
  unfold putK putD
  rw [← r.any k]
  by_cases e : (kvs.any fun kv => decide (kv.1 = k)) = true
  · rw [if_pos e, if_pos e]; exact r.repl k hy
  · rw [if_neg e, if_neg e]; exact r.app (.cons hy .nil)
theorem RepT.put (k : List Key) {y : V} {z : D} (hy : Rep K H S y z) {kvs : List (List Key × V)} {es : List (D × D)} (r : RepT K H S kvs es) : RepT K H S (putK kvs k y) (putD es (.tup (k.map keyD)) z) := by
  unfold putK putD
  rw [← r.any k]
  by_cases e : (kvs.any fun kv => decide (kv.1 = k)) = true
  · rw [if_pos e, if_pos e]; exact r.repl k hy
  · rw [if_neg e, if_neg e]; exact r.app (.cons hy .nil)
/-- a key's value -/
theorem rep_key {x : V} {k : Key} (h : Rep K H S x (keyD k)) : x = kV k := by
  cases k with
  | inl i => exact rep_int h
  | inr s => exact rep_str h
theorem reps_keys : ∀ {vs : List V} {ks : List Key}, Reps K H S vs (ks.map keyD) → vs = ks.map kV
  | _, [], .nil => rfl
  | _, n :: ns, .cons h r => by rw [rep_key h, reps_keys r]; rfl
theorem rep_keys {x : V} {ks : List Key} (h : Rep K H S x (.tup (ks.map keyD))) : ∃ b, x = .ref b ∧ H b = some (.tup (ks.map kV)) := by
  obtain ⟨a, vs, rfl, ha, r⟩ := rep_tup h
  rw [reps_keys r] at ha
  exact ⟨a, rfl, ha.1⟩
end
/-! ### a dict at an address: frozen or in flight, one way to see both -/
def DicAt (K : PySem.W.Frag) (H : Hp) (S : Own) (a : Addr) (es : List (D × D)) : Prop := (∃ kvs, Rd H a (.dK kvs) ∧ RepK K H S kvs es) ∨ ∃ kvs, Rd H a (.dT kvs) ∧ RepT K H S kvs es
theorem DicAt.of_rep {K : PySem.W.Frag} {H : Hp} {S : Own} {x : V} {es : List (D × D)} (h : Rep K H S x (.dct es)) : ∃ a, x = .ref a ∧ DicAt K H S a es := by
  obtain ⟨a, rfl, ⟨kvs, h, r⟩ | ⟨kvs, h, r⟩⟩ := rep_dct h
  · exact ⟨a, rfl, .inl ⟨kvs, h.1, r⟩⟩
  · exact ⟨a, rfl, .inr ⟨kvs, h.1, r⟩⟩
theorem DicAt.of_own {K : PySem.W.Frag} {H : Hp} {S : Own} {a : Addr} {es : List (D × D)} (W : Owns K H S) (h : S a = some (.dct es)) : DicAt K H S a es := by
  rcases W a _ h with ⟨kvs, h, r⟩ | ⟨kvs, h, r⟩
  · exact .inl ⟨kvs, .inl h, r⟩
  · exact .inr ⟨kvs, .inl h, r⟩
theorem DicAt.of_ownZ {K : PySem.W.Frag} {H : Hp} {S : Own} {a : Addr} {z : Obj × HO} {es : List (D × D)} (W : Owns K H S) (h : S a = some (.dcz z es)) : DicAt K H S a es := by
  obtain ⟨h1, ⟨kvs, e, r⟩ | ⟨kvs, e, r⟩⟩ := W a _ h
  · exact .inl ⟨kvs, .inr ⟨z.1, by rw [h1, e]⟩, r⟩
  · exact .inr ⟨kvs, .inr ⟨z.1, by rw [h1, e]⟩, r⟩
/-- the dict that a value is -/
def dicOf (S : Own) : D → Option (List (D × D))
  | .dct es => some es
  | .ref a => match S a with
    | some (.dct es) => some es
    | some (.dcz _ es) => some es
    | _ => none
  | _ => none
def lstOf (S : Own) : D → Option (List D)
  | .lst ds => some ds
  | .ref a => match S a with
    | some (.lst ds) => some ds
    | _ => none
  | _ => none
theorem dicOf_at {K : PySem.W.Frag} {H : Hp} {S Z : Own} {x : V} {d : D} {es : List (D × D)} (W : Owns K H (over S Z)) (h : Rep K H (over S Z) x d) (e : dicOf S d = some es) : ∃ a, x = .ref a ∧ DicAt K H (over S Z) a es := by
  cases d with
  | dct es' => cases e; exact DicAt.of_rep h
  | ref a =>
    cases h
    cases q : S a with
    | none => simp only [dicOf, q] at e; cases e
    | some o =>
      simp only [dicOf, q] at e
      cases o with
      | dct es' => cases e; exact ⟨a, rfl, DicAt.of_own W (over_some q)⟩
      | dcz z es' => cases e; exact ⟨a, rfl, DicAt.of_ownZ W (over_some q)⟩
      | lst _ => cases e
      | ins _ _ => cases e
  | _ => cases e
theorem lstOf_at {K : PySem.W.Frag} {H : Hp} {S Z : Own} {x : V} {d : D} {ds : List D} (W : Owns K H (over S Z)) (h : Rep K H (over S Z) x d) (e : lstOf S d = some ds) : ∃ a vs, x = .ref a ∧ Rd H a (.lst vs) ∧ Reps K H (over S Z) vs ds := by
  cases d with
  | lst ds' =>
    cases e
    obtain ⟨a, vs, rfl, ha, r⟩ := rep_lst h
    exact ⟨a, vs, rfl, ha.1, r⟩
  | ref a =>
    cases h
    cases q : S a with
    | none => simp only [lstOf, q] at e; cases e
    | some o =>
      simp only [lstOf, q] at e
      cases o with
      | lst ds' =>
        cases e
        obtain ⟨vs, h1, r⟩ := W a _ (over_some q)
        exact ⟨a, vs, rfl, .inl h1, r⟩
      | dct _ => cases e
      | dcz _ _ => cases e
      | ins _ _ => cases e
  | _ => cases e
section
variable {X : Cx} {pins : List (Addr × Obj)} {σ : St} {H : Hp} {S : Own} {s : Shared} {a : Addr} {es : List (D × D)} {k : D} {y : V} {u : Value} {A : Around} {E : Value → Shared → Prop}
/-- a dict's own object -/
theorem DicAt.obj (I : Inv X pins σ H s) (h : DicAt X.K H S a es) : (a == sysModules) = false ∧ ∃ o, s.heap.get? a = some o ∧ o.ExactDict := by
  rcases h with ⟨kvs, h, r⟩ | ⟨kvs, h, r⟩
  · obtain ⟨_, hd, vs, _, o, _, _, e, ex, _⟩ := dk_rd I.hok h
    exact ⟨hd, o, e, ex⟩
  · obtain ⟨_, hd, vs, _, o, _, _, e, ex, _⟩ := dt_rd I.hok h
    exact ⟨hd, o, e, ex⟩
/-- what it holds at a key; the empty one holds nothing, whatever its kind -/
theorem DicAt.get (h : DicAt X.K H S a es) (hk : keyB k = true) (hki : kindD es k = true) (hy : Rep X.K H S y k) :
    (∃ o, DGet H a y o ∧ OptRep X.K H S o (lookD es k)) ∨ (es = [] ∧ ((∃ q : Key, y = kV q ∧ Rd H a (.dT [])) ∨ ∃ (b : Addr) (q : List Key), y = .ref b ∧ H b = some (.tup (q.map kV)) ∧ Rd H a (.dK []))) := by
  rcases keyB_of hk with ⟨q, rfl⟩ | ⟨q, rfl⟩
  · have ey := rep_key hy
    subst ey
    rcases h with ⟨kvs, h, r⟩ | ⟨kvs, h, r⟩
    · exact .inl ⟨_, .inl ⟨kvs, q, h, rfl, rfl⟩, r.look q⟩
    · cases r with
      | nil => exact .inr ⟨rfl, .inl ⟨q, rfl, h⟩⟩
      | cons z r => exact absurd hki (by cases q <;> simp [kindD, tupB, keyD])
  · obtain ⟨b, rfl, hb⟩ := rep_keys hy
    rcases h with ⟨kvs, h, r⟩ | ⟨kvs, h, r⟩
    · cases r with
      | nil => exact .inr ⟨rfl, .inr ⟨b, q, rfl, hb, h⟩⟩
      | @cons j _ _ _ _ z r => exact absurd hki (by cases j <;> simp [kindD, tupB, keyD])
    · exact .inl ⟨_, .inr ⟨kvs, q, b, h, rfl, hb, rfl⟩, r.look q⟩
/-- the empty dict, seen as one of the other kind -/
theorem empty_T (I : Inv X pins σ H s) (h : Rd H a (.dK [])) : (a == sysModules) = false ∧ s.heap.DictOfH (tupleKind (mixKind X.prog X.w)) a [] := by
  obtain ⟨_, hd, vs, rel, o, es, ep, ho, ex, hda, hk, hp, hn⟩ := dk_rd I.hok h
  cases rel
  have e : es.toList = [] := by
    have := hp.length
    simpa using this
  exact ⟨hd, o, es, ep, ho, ex, hda, by rw [e]; rfl, (by intro x hx; exact nomatch hx), List.nodup_nil⟩
theorem empty_K (I : Inv X pins σ H s) (h : Rd H a (.dT [])) : (a == sysModules) = false ∧ s.heap.DictOf (mixKind X.prog X.w) a [] := by
  obtain ⟨_, hd, xs, rel, o, es, ep, ho, ex, hda, hk, hn⟩ := dt_rd I.hok h
  cases rel
  have e : es = #[] := by
    have := hk
    simpa using this
  subst e
  exact ⟨hd, o, #[], ep, ho, ex, hda, by intro e he; simp at he, .nil, List.nodup_nil⟩
end
end DL
namespace DL
open PySem PySem.Spec PyProof.Rows L2
/-! ### in -/
def flatD : D → Bool
  | .non => true
  | .bl _ => true
  | .int _ => true
  | .str _ => true
  | _ => false
def inD (d : D) (ds : List D) : Bool := ds.any fun y => eqv y d
def inStr (x y : Str) : Bool := !(Builtin.Str.occurrences y x 0 y.length 1).isEmpty
section
variable {K : PySem.W.Frag} {H : Hp} {S : Own}
theorem flat_of {x : V} {d : D} (h : Rep K H S x d) (f : flatD d = true) : flatV x = true := by
  cases d with
  | non => cases h; rfl
  | bl _ => cases h; rfl
  | int _ => cases h; rfl
  | str _ => cases h; rfl
  | _ => cases f
theorem eqV_of {x y : V} {d e : D} (h : Rep K H S x d) (g : Rep K H S y e) (f : flatD d = true) (f' : flatD e = true) : eqV x y = eqv d e := by
  cases d with
  | non => cases h; cases e with
    | non => cases g; rfl
    | bl _ => cases g; rfl
    | int _ => cases g; rfl
    | str _ => cases g; rfl
    | _ => cases f'
  | bl _ => cases h; cases e with
    | non => cases g; rfl
    | bl _ => cases g; rfl
    | int _ => cases g; rfl
    | str _ => cases g; rfl
    | _ => cases f'
  | int _ => cases h; cases e with
    | non => cases g; rfl
    | bl _ => cases g; rfl
    | int _ => cases g; rfl
    | str _ => cases g; rfl
    | _ => cases f'
  | str _ => cases h; cases e with
    | non => cases g; rfl
    | bl _ => cases g; rfl
    | int _ => cases g; rfl
    | str _ => cases g; rfl
    | _ => cases f'
  | _ => cases f
theorem flats_of : ∀ {xs : List V} {ds : List D}, Reps K H S xs ds → ds.all flatD = true → xs.all flatV = true
  | _, _, .nil, _ => rfl
  | _, _, .cons h r, f => by
    rw [List.all_cons, Bool.and_eq_true] at f
    rw [List.all_cons, flat_of h f.1, flats_of r f.2] <;> rfl
theorem inV_of {x : V} {d : D} (h : Rep K H S x d) (f : flatD d = true) : ∀ {xs : List V} {ds : List D}, Reps K H S xs ds → ds.all flatD = true → inV x xs = inD d ds
  | _, _, .nil, _ => rfl
  | _, _, .cons g r, f' => by
    rw [List.all_cons, Bool.and_eq_true] at f'
    have ih := inV_of h f r f'.2
    unfold inV inD at ih ⊢
    rw [List.any_cons, List.any_cons, ih, eqV_of g h f'.1 f]
end
def rInD (neg : Bool) : R2D := fun d e S R => match e with
  | .str y => ∃ x, d = .str x ∧ R (.bl (if neg then !inStr x y else inStr x y)) S
  | .tup ds => flatD d = true ∧ ds.all flatD = true ∧ R (.bl (if neg then !inD d ds else inD d ds)) S
  | .lst ds => flatD d = true ∧ ds.all flatD = true ∧ R (.bl (if neg then !inD d ds else inD d ds)) S
  | .dct es => keyB d = true ∧ kindD es d = true ∧ R (.bl (if neg then !(lookD es d).isSome else (lookD es d).isSome)) S
  | .ref a => match S a with
    | some (.lst ds) => flatD d = true ∧ ds.all flatD = true ∧ R (.bl (if neg then !inD d ds else inD d ds)) S
    | some (.dct es) => keyB d = true ∧ kindD es d = true ∧ R (.bl (if neg then !(lookD es d).isSome else (lookD es d).isSome)) S
    | some (.dcz _ es) => keyB d = true ∧ kindD es d = true ∧ R (.bl (if neg then !(lookD es d).isSome else (lookD es d).isSome)) S
    | _ => False
  | _ => False
section
variable {X : Cx}
section
variable {pins : List (Addr × Obj)} {σ : St} {H : Hp} {S : Own} {s : Shared} {a : Addr} {es : List (D × D)} {k : D} {y : V} {u : Value} {E : Value → Shared → Prop}
theorem dic_in (hu : X.A.units + 1 < cLine) (I : Inv X pins σ H s) (h : DicAt X.K H S a es) (hk : keyB k = true) (hki : kindD es k = true) (hy : Rep X.K H S y k) (ry : RelV y u) {Q : Value → Shared → Prop} (q : ∀ s', Inv X pins σ H s' → Q (.bool (lookD es k).isSome) s') :
    wpAny (model X.prog X.w) X.A (compareOp .In u (.ref a)) Q E s := by
  rcases h.get hk hki hy with ⟨o, g, r⟩ | ⟨rfl, ⟨p, rfl, hr⟩ | ⟨b, p, rfl, hb, hr⟩⟩
  · exact d_in hu I g ry fun s' I' => by rw [r.isSome]; exact q s' I'
  · obtain ⟨hd, dd⟩ := empty_K I hr
    exact wpAny_in_of (kV_is ry) hd dd.mapOf (q _ (I.tok _))
  · obtain ⟨hd, dd⟩ := empty_T I hr
    cases ry
    exact wpAny_in_heap (tupleKind_room_in1 hu) (key_of I.hok hb) hd dd (q _ (I.tok _))
theorem dic_notIn (hu : X.A.units + 1 < cLine) (I : Inv X pins σ H s) (h : DicAt X.K H S a es) (hk : keyB k = true) (hki : kindD es k = true) (hy : Rep X.K H S y k) (ry : RelV y u) {Q : Value → Shared → Prop} (q : ∀ s', Inv X pins σ H s' → Q (.bool (!(lookD es k).isSome)) s') :
    wpAny (model X.prog X.w) X.A (compareOp .NotIn u (.ref a)) Q E s := by
  rcases h.get hk hki hy with ⟨o, g, r⟩ | ⟨rfl, ⟨p, rfl, hr⟩ | ⟨b, p, rfl, hb, hr⟩⟩
  · exact d_notIn hu I g ry fun s' I' => by rw [r.isSome]; exact q s' I'
  · obtain ⟨hd, dd⟩ := empty_K I hr
    exact wpAny_notIn_of (kV_is ry) hd dd.mapOf (q _ (I.tok _))
  · obtain ⟨hd, dd⟩ := empty_T I hr
    cases ry
    exact wpAny_notIn_heap (tupleKind_room_in1 hu) (key_of I.hok hb) hd dd (q _ (I.tok _))
theorem dic_getItem (hu : X.A.units + 1 < cLine) (I : Inv X pins σ H s) (h : DicAt X.K H S a es) (hk : keyB k = true) (hki : kindD es k = true) (hy : Rep X.K H S y k) (ry : RelV y u) {z : D} (hz : lookD es k = some z) {Q : Value → Shared → Prop} (q : ∀ v w s', Inv X pins σ H s' → Rep X.K H S v z → RelV v w → Q w s') :
    wpAny (model X.prog X.w) X.A (getItem (.ref a) u) Q E s := by
  rcases h.get hk hki hy with ⟨o, g, r⟩ | ⟨rfl, _⟩
  · rw [hz] at r
    obtain ⟨v, rfl, hv⟩ := r.some_of
    exact d_getItem hu I g ry fun w s' I' rw' => q v w s' I' hv rw'
  · cases hz
end
theorem bl_if (n b : Bool) : (if n = true then Value.bool (!b) else Value.bool b) = Value.bool (if n = true then !b else b) := by cases n <;> rfl
theorem od_in (hu : X.A.units + 1 < cLine) : OpD X (compareOp .In) (rInD false) := by
  intro B pins s σ H S G x y v u d e R I A hx hy rx ry q
  have dic : ∀ {es a}, y = .ref a → DicAt X.K H (ov B S) a es → keyB d = true ∧ kindD es d = true ∧ R (.bl (lookD es d).isSome) S → wpAny (model X.prog X.w) X.A (compareOp .In v u) (EP X pins σ (QL X.K B G σ H S R)) X.xe s := fun {es a} ea h q => by
    subst ea; cases ry
    exact dic_in hu I h q.1 q.2.1 hx rx fun s' I' => ⟨V.bl _, H, I', rfl, QL.here A q.2.2 (.bl _)⟩
  have seq : ∀ {ds a vs}, y = .ref a → SqL X.K H a vs ∨ SqT X.K H a vs → Reps X.K H (ov B S) vs ds → flatD d = true ∧ ds.all flatD = true ∧ R (.bl (inD d ds)) S → wpAny (model X.prog X.w) X.A (compareOp .In v u) (EP X pins σ (QL X.K B G σ H S R)) X.xe s := fun {ds a vs} ea h r q => by
    subst ea
    refine op_in_seq pins s σ H x _ v u _ I rx ry ⟨a, vs, rfl, h, flat_of hx q.1, flats_of r q.2.1, ?_⟩
    rw [if_neg Bool.false_ne_true, inV_of hx q.1 r q.2.1]
    exact QL.here A q.2.2 (.bl _)
  cases e with
  | str z =>
    obtain ⟨z', rfl, q⟩ := q
    cases hx; cases hy
    exact op_in_str pins s σ H _ _ v u _ I rx ry ⟨_, _, rfl, rfl, QL.here A q (.bl _)⟩
  | tup ds => obtain ⟨a, vs, ea, ha, r⟩ := rep_tup hy; exact seq ea (.inr ha.sq) r q
  | lst ds => obtain ⟨a, vs, ea, ha, r⟩ := rep_lst hy; exact seq ea (.inl ha.sq) r q
  | dct es => obtain ⟨a, ea, h⟩ := DicAt.of_rep hy; exact dic ea h q
  | ref a =>
    cases hy
    cases hs : S a with
    | none => simp only [rInD, hs] at q
    | some o =>
      simp only [rInD, hs] at q
      cases o with
      | lst ds => obtain ⟨vs, h1, r⟩ := A.own a _ (over_some hs); exact seq rfl (.inl (.inl (.inl h1))) r q
      | dct es => exact dic rfl (DicAt.of_own A.own (over_some hs)) q
      | dcz _ es => exact dic rfl (DicAt.of_ownZ A.own (over_some hs)) q
      | ins _ _ => exact q.elim
  | _ => exact q.elim
theorem od_notIn (hu : X.A.units + 1 < cLine) : OpD X (compareOp .NotIn) (rInD true) := by
  intro B pins s σ H S G x y v u d e R I A hx hy rx ry q
  have dic : ∀ {es a}, y = .ref a → DicAt X.K H (ov B S) a es → keyB d = true ∧ kindD es d = true ∧ R (.bl (!(lookD es d).isSome)) S → wpAny (model X.prog X.w) X.A (compareOp .NotIn v u) (EP X pins σ (QL X.K B G σ H S R)) X.xe s := fun {es a} ea h q => by
    subst ea; cases ry
    exact dic_notIn hu I h q.1 q.2.1 hx rx fun s' I' => ⟨V.bl _, H, I', rfl, QL.here A q.2.2 (.bl _)⟩
  have seq : ∀ {ds a vs}, y = .ref a → SqL X.K H a vs ∨ SqT X.K H a vs → Reps X.K H (ov B S) vs ds → flatD d = true ∧ ds.all flatD = true ∧ R (.bl (!inD d ds)) S → wpAny (model X.prog X.w) X.A (compareOp .NotIn v u) (EP X pins σ (QL X.K B G σ H S R)) X.xe s := fun {ds a vs} ea h r q => by
    subst ea
    refine op_notIn_seq pins s σ H x _ v u _ I rx ry ⟨a, vs, rfl, h, flat_of hx q.1, flats_of r q.2.1, ?_⟩
    rw [if_pos rfl, inV_of hx q.1 r q.2.1]
    exact QL.here A q.2.2 (.bl _)
  cases e with
  | str z =>
    obtain ⟨z', rfl, q⟩ := q
    cases hx; cases hy
    exact L2.op_notIn_str pins s σ H _ _ v u _ I rx ry ⟨_, _, rfl, rfl, QL.here A q (.bl _)⟩
  | tup ds => obtain ⟨a, vs, ea, ha, r⟩ := rep_tup hy; exact seq ea (.inr ha.sq) r q
  | lst ds => obtain ⟨a, vs, ea, ha, r⟩ := rep_lst hy; exact seq ea (.inl ha.sq) r q
  | dct es => obtain ⟨a, ea, h⟩ := DicAt.of_rep hy; exact dic ea h q
  | ref a =>
    cases hy
    cases hs : S a with
    | none => simp only [rInD, hs] at q
    | some o =>
      simp only [rInD, hs] at q
      cases o with
      | lst ds => obtain ⟨vs, h1, r⟩ := A.own a _ (over_some hs); exact seq rfl (.inl (.inl (.inl h1))) r q
      | dct es => exact dic rfl (DicAt.of_own A.own (over_some hs)) q
      | dcz _ es => exact dic rfl (DicAt.of_ownZ A.own (over_some hs)) q
      | ins _ _ => exact q.elim
  | _ => exact q.elim
/-! ### a[b] -/
def IxD (X : Cx) (r : R2D) : Prop :=
  ∀ (value slice : Expr) (B : Bs) (pins : List (Addr × Obj)) (s : Shared) (σ : St) (H : Hp) (S : Own) (G : DG) (x y : V) (v u : Value) (d e : D) (R : DVK), Inv X pins σ H s → At X.K B H S G σ → Rep X.K H (ov B S) x d → Rep X.K H (ov B S) y e → RelV x v → RelV y u → r d e S R →
    subscripted slice false v u = operate [v, u] (getItem v u) → wpAny (model X.prog X.w) X.A (subscriptTail value slice v u) (EP X pins σ (QL X.K B G σ H S R)) X.xe s
def rIxD : R2D := fun d e S R => match d with
  | .tup ds => ∃ i z, e = .int i ∧ atI ds i = some z ∧ R z S
  | .lst ds => ∃ i z, e = .int i ∧ atI ds i = some z ∧ R z S
  | .str x => ∃ i c, e = .int i ∧ x.length ≤ sizeLine ∧ atI x.cps.toList i = some c ∧ R (.str ⟨#[c]⟩) S
  | .dct es => keyB e = true ∧ kindD es e = true ∧ ∃ z, lookD es e = some z ∧ R z S
  | .ref a => match S a with
    | some (.lst ds) => ∃ i z, e = .int i ∧ atI ds i = some z ∧ R z S
    | some (.dct es) => keyB e = true ∧ kindD es e = true ∧ ∃ z, lookD es e = some z ∧ R z S
    | some (.dcz _ es) => keyB e = true ∧ kindD es e = true ∧ ∃ z, lookD es e = some z ∧ R z S
    | _ => False
  | _ => False
theorem reps_at {K : PySem.W.Frag} {H : Hp} {S : Own} {vs : List V} {ds : List D} {i : Int} {z : D} (r : Reps K H S vs ds) (h : atI ds i = some z) : ∃ v, atI vs i = some v ∧ Rep K H S v z := by
  unfold atI at h ⊢
  rw [r.length]
  cases e : ixN ds.length i with
  | none => rw [e] at h; cases h
  | some j =>
    rw [e] at h
    exact r.get h
theorem ixd (hu : X.A.units + 1 < cLine) : IxD X rIxD := by
  intro value slice B pins s σ H S G x y v u d e R I A hx hy rx ry q hs
  have dic : ∀ {es a}, x = .ref a → DicAt X.K H (ov B S) a es → (keyB e = true ∧ kindD es e = true ∧ ∃ z, lookD es e = some z ∧ R z S) → wpAny (model X.prog X.w) X.A (subscriptTail value slice v u) (EP X pins σ (QL X.K B G σ H S R)) X.xe s := fun {es a} ea h q => by
    subst ea; cases rx
    obtain ⟨q1, q2, z, hz, q⟩ := q
    obtain ⟨_, o, ho, ex⟩ := h.obj I
    exact tail_any (show s.TypeIs (.ref a) "dict" from ⟨o, ho, ex.1⟩) PySem.F.slot_dict_getitem.lookup (dic_getItem hu I h q1 q2 hy ry hz fun v' w s' I' hv rv => ⟨v', H, I', rv, QL.here A q hv⟩) hs
  have lst : ∀ {ds a vs}, x = .ref a → Rd H a (.lst vs) → Reps X.K H (ov B S) vs ds → (∃ i z, e = .int i ∧ atI ds i = some z ∧ R z S) → wpAny (model X.prog X.w) X.A (subscriptTail value slice v u) (EP X pins σ (QL X.K B G σ H S R)) X.xe s := fun {ds a vs} ea h r q => by
    subst ea
    obtain ⟨i, z, rfl, hz, q⟩ := q
    obtain ⟨v', hv, hr⟩ := reps_at r hz
    cases hy
    exact ix_list value slice pins s σ H _ _ v u _ I rx ry ⟨a, vs, i, v', rfl, rfl, .inl h, hv, QL.here A q hr⟩ hs
  cases d with
  | str z =>
    obtain ⟨i, c, rfl, h1, h2, q⟩ := q
    cases hx; cases hy
    exact ix_str value slice pins s σ H _ _ v u _ I rx ry ⟨_, _, _, rfl, rfl, h1, h2, QL.here A q (.str _)⟩ hs
  | tup ds =>
    obtain ⟨a, vs, rfl, ha, r⟩ := rep_tup hx
    obtain ⟨i, z, rfl, hz, q⟩ := q
    obtain ⟨v', hv, hr⟩ := reps_at r hz
    cases hy
    exact ix_tup value slice pins s σ H _ _ v u _ I rx ry ⟨a, vs, i, v', rfl, rfl, ha.sq, hv, QL.here A q hr⟩ hs
  | lst ds => obtain ⟨a, vs, ea, ha, r⟩ := rep_lst hx; exact lst ea ha.1 r q
  | dct es => obtain ⟨a, ea, h⟩ := DicAt.of_rep hx; exact dic ea h q
  | ref a =>
    cases hx
    cases hs' : S a with
    | none => simp only [rIxD, hs'] at q
    | some o =>
      simp only [rIxD, hs'] at q
      cases o with
      | lst ds => obtain ⟨vs, h1, r⟩ := A.own a _ (over_some hs'); exact lst rfl (.inl h1) r q
      | dct es => exact dic rfl (DicAt.of_own A.own (over_some hs')) q
      | dcz _ es => exact dic rfl (DicAt.of_ownZ A.own (over_some hs')) q
      | ins _ _ => exact q.elim
  | _ => exact q.elim
end
section
variable {X : Cx} {B : Bs} {a b e o i value : Expr} {ta tb tv te : RE} {pos pos' tpos : Pos}
theorem de_ix (hu : X.A.units + 1 < cLine) (ha : JE X B a ta) (hb : JE X B b tb) (hs : PlainIx b := by exact fun _ _ => rfl) : JE X B (.Subscript a b pos) (d2 rIxD ta tb) := by
  refine JE.mk fun pins s σ H S G R I A q => ?_
  refine Subscript_ (bin2 ha hb I A q fun v u s2 x y H2 S2 d e I2 A2 f hx hy rx ry q2 => ?_)
  exact thn (ixd hu a b B pins s2 σ H2 S2 G x y v u d e R I2 A2 hx hy rx ry q2 (hs _ _)) fun w s3 z => ep_imp z fun v H' z => QL.trans f z
/-! ### a[b] = v -/
def rSetD (d e z : D) (S : Own) (R : Own → Prop) : Prop := match d with
  | .ref a => match S a with
    | some (.lst ds) => ∃ i j, e = .int i ∧ ixN ds.length i = some j ∧ R (S.put a (.lst (ds.set j z)))
    | some (.dct es) => keyB e = true ∧ kindD es e = true ∧ es.length < sizeLine ∧ R (S.put a (.dct (putD es e z)))
    | _ => False
  | _ => False
theorem retype_T {pins : List (Addr × Obj)} {σ : St} {H : Hp} {s : Shared} {p : Addr} (I : Inv X pins σ H s) (h : H p = some (.dK [])) : Inv X pins σ (upd H p (.dT [])) s := by
  obtain ⟨hd, o, es, ep, ho, ex, hda, hk, hi, hn⟩ := empty_T I (.inl h)
  exact I.write (x := p) (e := p) (h' := s.heap) (t' := s.toks) (by rw [h]; trivial) (.inl rfl) (fun b u _ z => z) ⟨o, ho⟩ ⟨Nat.zero_le _, hd, [], .nil, o, es, ep, ho, ex, hda, hk, hn⟩
theorem retype_K {pins : List (Addr × Obj)} {σ : St} {H : Hp} {s : Shared} {p : Addr} (I : Inv X pins σ H s) (h : H p = some (.dT [])) : Inv X pins σ (upd H p (.dK [])) s := by
  obtain ⟨hd, dd⟩ := empty_K I (.inl h)
  obtain ⟨o, _, _, ho, _⟩ := id dd
  exact I.write (x := p) (e := p) (h' := s.heap) (t' := s.toks) (by rw [h]; trivial) (.inl rfl) (fun b u _ z => z) ⟨o, ho⟩ ⟨Nat.zero_le _, hd, [], .nil, dd⟩
/-- a dict in flight takes a pair -/
theorem own_put (hu : X.A.units + 1 < cLine) {pins : List (Addr × Obj)} {s : Shared} {σ : St} {H : Hp} {S : Own} {p : Addr} {es : List (D × D)} {y w : V} {k z : D} {u r : Value} (I : Inv X pins σ H s) (W : Owns X.K H S) (hp : S p = some (.dct es)) (hk : keyB k = true) (hki : kindD es k = true) (hl : es.length < sizeLine)
    (hy : Rep X.K H S y k) (hw : Rep X.K H S w z) (ry : RelV y u) (rw' : RelV w r) {Q : Unit → Shared → Prop} {E : Value → Shared → Prop}
    (q : ∀ H' s', Inv X pins σ H' s' → Fr H S H' (S.put p (.dct (putD es k z))) → Owns X.K H' (S.put p (.dct (putD es k z))) → Q () s') : wpAny (model X.prog X.w) X.A (setItem (.ref p) u r) Q E s := by
  have fin : ∀ {H1 : Hp} {o : HO}, Inv X pins σ H1 s → (∀ x, x ≠ p → H1 x = H x) → ∀ s', Inv X pins σ (upd H1 p o) s' → SoAt X.K (upd H p o) (S.put p (.dct (putD es k z))) p (.dct (putD es k z)) → Q () s' := fun {H1 o} _ he s' I' new => by
    have e : upd H1 p o = upd H p o := by
      funext x; unfold upd; split
      · rfl
      · rename_i hx; exact he x hx
    rw [e] at I'
    exact q _ s' I' (fr_write hp) (W.write hp new)
  rcases keyB_of hk with ⟨j, rfl⟩ | ⟨j, rfl⟩
  · have ey := rep_key hy
    subst ey
    rcases W p _ hp with ⟨kvs, h, rr⟩ | ⟨kvs, h, rr⟩
    · refine d_setItem hu I (DPut.k (k := j) h (by rw [rr.length]; exact hl)) ry rw' fun s' I' => fin I (fun _ _ => rfl) s' I' (.inl ⟨_, upd_same, ((rr.put j hw)).fr (fr_write hp)⟩)
    · cases rr with
      | nil =>
        have I1 := retype_K I h
        refine d_setItem hu I1 (DPut.k (k := j) upd_same (by show 0 < sizeLine; decide)) ry rw' fun s' I' => fin I1 (fun x hx => upd_ne hx) s' I' (.inl ⟨_, upd_same, ((RepK.put j hw .nil)).fr (fr_write hp)⟩)
      | cons _ _ => exact absurd hki (by cases j <;> simp [kindD, tupB, keyD])
  · obtain ⟨b, rfl, hb⟩ := rep_keys hy
    rcases W p _ hp with ⟨kvs, h, rr⟩ | ⟨kvs, h, rr⟩
    · cases rr with
      | nil =>
        have I1 := retype_T I h
        have hb1 : upd H p (.dT []) b = some (.tup (j.map kV)) := by rw [upd_ne (ne_of hb h (fun z => nomatch z))]; exact hb
        refine d_setItem hu I1 (DPut.t (k := j) upd_same hb1 (by show 0 < sizeLine; decide)) ry rw' fun s' I' => fin I1 (fun x hx => upd_ne hx) s' I' (.inr ⟨_, upd_same, ((RepT.put j hw .nil)).fr (fr_write hp)⟩)
      | @cons j' _ _ _ _ _ _ => exact absurd hki (by cases j' <;> simp [kindD, tupB, keyD])
    · refine d_setItem hu I (DPut.t (k := j) h hb (by rw [rr.length]; exact hl)) ry rw' fun s' I' => fin I (fun _ _ => rfl) s' I' (.inr ⟨_, upd_same, ((rr.put j hw)).fr (fr_write hp)⟩)
theorem own_set {pins : List (Addr × Obj)} {s : Shared} {σ : St} {H : Hp} {S : Own} {p : Addr} {ds : List D} {i : Int} {j : Nat} {w : V} {z : D} {u r : Value} (I : Inv X pins σ H s) (W : Owns X.K H S) (hp : S p = some (.lst ds)) (hi : ixN ds.length i = some j) (hw : Rep X.K H S w z) (ru : RelV (.int i) u) (rw' : RelV w r) {Q : Unit → Shared → Prop}
    (q : ∀ H' s', Inv X pins σ H' s' → Fr H S H' (S.put p (.lst (ds.set j z))) → Owns X.K H' (S.put p (.lst (ds.set j z))) → Q () s') : wpAny (model X.prog X.w) X.A (setItem (.ref p) u r) Q X.xe s := by
  obtain ⟨vs, h, rr⟩ := W p _ hp
  refine thn (set_list pins s σ H (.ref p) (.int i) w (.ref p) u r (fun H' => H' = upd H p (.lst (vs.set j w))) I rfl ru rw' ⟨p, vs, i, j, rfl, rfl, h, by rw [rr.length]; exact hi, rfl⟩) fun _ s' ⟨H', I', e⟩ => ?_
  subst e
  exact q _ s' I' (fr_write hp) (W.write hp ⟨_, upd_same, (rr.set hw j).fr (fr_write hp)⟩)
theorem setD (hu : X.A.units + 1 < cLine) {pins : List (Addr × Obj)} {s : Shared} {σ : St} {H : Hp} {S Z : Own} {x y w : V} {d k z : D} {v u r : Value} {R : Own → Prop} (I : Inv X pins σ H s) (W : Owns X.K H (over S Z)) (dis : Dis S Z) (hx : Rep X.K H (over S Z) x d) (hy : Rep X.K H (over S Z) y k) (hw : Rep X.K H (over S Z) w z) (rx : RelV x v) (ry : RelV y u) (rw' : RelV w r) (h : rSetD d k z S R) {Q : Unit → Shared → Prop}
    (q : ∀ H' S' s', R S' → Inv X pins σ H' s' → Fr H (over S Z) H' (over S' Z) → Owns X.K H' (over S' Z) → Dis S' Z → Q () s') : wpAny (model X.prog X.w) X.A (setItem v u r) Q X.xe s := by
  cases d with
  | ref a =>
    cases hx; cases rx
    cases hs : S a with
    | none => simp only [rSetD, hs] at h
    | some o =>
      simp only [rSetD, hs] at h
      cases o with
      | lst ds =>
        obtain ⟨i, j, rfl, hi, h⟩ := h
        cases hy
        exact own_set I W (over_some hs) hi hw ry rw' fun H' s' I' f W' => q _ _ s' h I' (by rw [over_put]; exact f) (by rw [over_put]; exact W') (dis.put (dis _ _ hs))
      | dct es => exact own_put hu I W (over_some hs) h.1 h.2.1 h.2.2.1 hy hw ry rw' fun H' s' I' f W' => q _ _ s' h.2.2.2 I' (by rw [over_put]; exact f) (by rw [over_put]; exact W') (dis.put (dis _ _ hs))
      | ins _ _ => exact h.elim
      | dcz _ _ => exact h.elim
  | _ => exact h.elim
def dPut (to ti tv : RE) : RS := fun D G S => tv G S fun z S1 => to G S1 fun d S2 => ti G S2 fun k S3 => rSetD d k z S3 fun S4 => D.nx G S4
theorem ds_put (hu : X.A.units + 1 < cLine) (ho : JE X B o ta) (hi : JE X B i tb) (hv : JE X B value tv) (hs : swapsWith value (some (.Subscript o i pos')) pos.line X.env = pure false := by rfl) : JS X B (.Assign [.Subscript o i pos'] value pos) (dPut ta tb tv) := by
  refine ⟨fun pins s σ H D I ⟨G, S, DD, A, q, k⟩ => ?_⟩
  refine wpAny_Assign_Subscript (thn (hv.run I A q) fun r s1 ⟨w, H1, I1, rw', z, S1, q1, f1, A1, h1⟩ => thn (ho.run I1 A1 q1) fun v s2 ⟨x, H2, I2, rx, d, S2, q2, f2, A2, h2⟩ => thn (hi.run I2 A2 q2) fun u s3 ⟨y, H3, I3, ry, e, S3, q3, f3, A3, h3⟩ => ?_) hs
  exact setD hu I3 A3.own A3.dis (h2.fr f3) h3 (h1.fr (f2.trans f3)) rx ry rw' q3 fun H' S' s' h I' f W dd => ⟨σ, H', I', k.nx G S' σ H' h ((f1.trans f2).trans (f3.trans f)) (A3.go f W dd)⟩
end
end DL
namespace DL
open PySem PySem.Spec PyProof.Rows L2
section
variable {X : Cx} {B : Bs} {a b c e o i value lo hi : Expr} {es : List Expr} {t ta tb tc tv te to ti : RE} {tas : RA} {pos pos' tpos apos cpos p2 : Pos}
/-! ### op= -/
def dAug (i : Nat) (te : RE) (r : R2D) : RS := fun D G S => ∃ d, G[i]? = some (some d) ∧ te G S fun e S1 => r d e S1 fun z S2 => D.nx (G.set i (some z)) S2
theorem ds_aug {i : Nat} {x : Str} {op : Operator} {r : R2D} (hN : X.N.Nodup) (hi : X.N[i]? = some x) (hx : Loc X.env.scope x) (he : JE X B e te) (ho : OpD X (inplaceOp op) r) (hf : X.fn x = true ∨ X.env.scope.names.lookup x = some .local := by first | exact .inl rfl | exact .inr rfl | assumption) :
    JS X B (.AugAssign (.Name x pos') op e pos) (dAug i te r) := by
  refine ⟨fun pins s σ H D I ⟨G, S, DD, A, ⟨d, e1, q⟩, k⟩ => ?_⟩
  obtain ⟨xv, ex, hd⟩ := A.env.2 i d e1
  obtain ⟨m, hn, hl⟩ := I.loc
  have vis : Vis X.env.scope x := by rcases hx with k | k; exact .inl k; exact .inr (.inl k)
  obtain ⟨u, rr, l⟩ := hl i x xv hi ex vis
  refine wpAny_AugAssign_Name ?_
  have go : wpAny (model X.prog X.w) X.A (eval e X.env) (fun w s₂ => wpAny (model X.prog X.w) X.A (inplaceOp op u w) (fun r s₃ => wpAny (model X.prog X.w) X.A (storeName X.env x r) (fun _ => SP X pins D .next) X.xe s₃) X.xe s₂) X.xe s := by
    refine thn (he.run I A q) fun w s1 ⟨y, H1, I1, r1, z, S1, q1, f1, A1, h1⟩ => ?_
    refine thn (ho B pins s1 σ H1 S1 G xv y u w d z _ I1 A1 (hd.fr f1) h1 rr r1 q1) fun w2 s2 ⟨zv, H2, I2, r2, z2, S2, q2, f2, A2, h2⟩ => ?_
    exact store_ok I2 hN hi hx r2 (fun s3 I3 => ⟨_, H2, I3, k.nx _ S2 _ H2 q2 (f1.trans f2) ⟨A2.own, A2.env.set i h2, A2.fr, A2.dis⟩⟩) hf
  rcases l with ⟨hk, hm⟩ | ⟨hk, c, hc, hcell⟩
  · exact wpAny_loadName_local I.ok.kind hk hn hm go
  · rcases hk with hk | hk
    · exact wpAny_loadName_cell I.ok.kind hk hc hcell go
    · rcases hx with k | k
      · have : X.env.scope.names.lookup x = some .free := hk
        rw [k] at this; cases this
      · have : X.env.scope.names.lookup x = some .free := hk
        rw [k] at this; cases this
/-- o[i] op= e, o a list in flight -/
def dAugS (to ti te : RE) (r : R2D) : RS := fun D G S => to G S fun d S1 => ti G S1 fun k S2 => ∃ p ds i j z, d = .ref p ∧ S2 p = some (.lst ds) ∧ k = .int i ∧ 0 ≤ i ∧ i = (j : Nat) ∧ ds[j]? = some z ∧ te G S2 fun e S3 => r z e S3 fun z2 S4 => rSetD d k z2 S4 fun S5 => D.nx G S5
theorem ds_augS {op : Operator} {r : R2D} (hu : X.A.units + 1 < cLine) (ho : JE X B o to) (hi : JE X B i ti) (he : JE X B e te) (hp : OpD X (inplaceOp op) r)
    (ha : ∀ ov iv new, augStore i ov iv new = (do holding [new, ov, iv] (setItem ov iv new); release [new, ov, iv] []; pure .next) := by intros; rfl) : JS X B (.AugAssign (.Subscript o i tpos) op e pos) (dAugS to ti te r) := by
  refine ⟨fun pins s σ H D I ⟨G, S, DD, A, q, k⟩ => ?_⟩
  refine wpAny_AugAssign_SubscriptAny (thn (ho.run I A q) fun ov s1 ⟨x1, H1, I1, r1, d, S1, q1, f1, A1, h1⟩ => ?_) ha
  refine thn (hi.run I1 A1 q1) fun iv s2 ⟨x2, H2, I2, r2, kk, S2, q2, f2, A2, h2⟩ => ?_
  obtain ⟨p, ds, i, j, z, rfl, hs, rfl, h0, hj, hz, q2⟩ := q2
  cases h1; cases r1
  obtain ⟨vs, hv, rr⟩ := A2.own p _ (over_some hs)
  obtain ⟨zv, ez, hzv⟩ := rr.get hz
  obtain ⟨hsz, its, n, rv, hlen, eo⟩ := lstR I2 (.inl hv)
  obtain ⟨w, ew, rw'⟩ := rv.get ez
  cases h2
  obtain ⟨tk, rfl⟩ := _root_.id r2
  have hjl : j < its.length := by rw [← hlen]; exact (List.getElem?_eq_some_iff.mp ez).1
  have hsl := sizeLine_eq
  have hjn : i.toNat = j := by omega
  refine wpAny_getItem_list ⟨_, eo, rfl, _, rfl⟩ h0 (by omega) (by rw [hjn]; simpa using ew) ?_
  refine thn (he.run I2 A2 q2) fun v s4 ⟨x4, H4, I4, r4, e4, S4, q4, f4, A4, h4⟩ => ?_
  refine thn (hp B pins s4 σ H4 S4 G zv x4 w v z e4 _ I4 A4 (hzv.fr f4) h4 rw' r4 q4) fun new s5 ⟨x5, H5, I5, r5, z5, S5, q5, f5, A5, h5⟩ => ?_
  exact setD hu I5 A5.own A5.dis (.ref p) (.int _) h5 rfl r2 r5 q5 fun H' S' s' h I' f W dd => ⟨σ, H', I', k.nx G S' σ H' h ((((f1.trans f2).trans f4).trans f5).trans f) (A5.go (f) W dd)⟩
/-! ### slices -/
abbrev RO := DG → Own → (Option Int → Own → Prop) → Prop
def liftO (K : PySem.W.Frag) (B : Bs) (t : RO) : TO := fun σ H Q => ∃ G S R, At K B H S G σ ∧ t G S R ∧ ∀ o H', (∃ S', R o S' ∧ Fr H (ov B S) H' (ov B S') ∧ At K B H' S' G σ) → Q o H'
abbrev JO (X : Cx) (B : Bs) (e : Option Expr) (t : RO) : Prop := PO X e (liftO X.K B t)
theorem PO.mono {e : Option Expr} {t t' : TO} (h : PO X e t) (w : ∀ σ H Q, t' σ H Q → t σ H Q) : PO X e t' := ⟨fun pins s σ H Q I q => h.run pins s σ H Q I (w σ H Q q)⟩
def dNoPart : RO := fun _ S R => R none S
def dPart (t : RE) : RO := fun G S R => t G S fun d S1 => ∃ i, d = .int i ∧ R (some i) S1
theorem do_none : JO X B none dNoPart := PO.mono po_none fun σ H Q ⟨G, S, R, A, q, k⟩ => k none H ⟨S, q, Fr.refl _ _, A⟩
theorem do_some (h : JE X B e te) : JO X B (some e) (dPart te) := PO.mono (po_some h) fun σ H Q ⟨G, S, R, A, q, k⟩ =>
  ⟨G, S, _, A, q, fun v H1 ⟨d, S1, ⟨i, ed, q1⟩, f1, A1, h1⟩ => by subst ed; cases h1; exact ⟨i, rfl, k _ H1 ⟨S1, q1, f1, A1⟩⟩⟩
def cutD (xs : List D) (lo hi : Option Int) : List D := (xs.drop (HT.sIx xs.length 0 lo)).take (HT.sIx xs.length xs.length hi - HT.sIx xs.length 0 lo)
/-- x[lo:hi] -/
def rSlD (d : D) (lo hi : Option Int) (S : Own) (R : DVK) : Prop := match d with
  | .str z => z.length ≤ sizeLine ∧ R (.str (cutS z lo hi)) S
  | .tup ds => R (.tup (cutD ds lo hi)) S
  | .lst ds => R (.lst (cutD ds lo hi)) S
  | .ref a => match S a with
    | some (.lst ds) => R (.lst (cutD ds lo hi)) S
    | _ => False
  | _ => False
def dSl (te : RE) (tl th : RO) : RE := fun G S R => te G S fun d S1 => tl G S1 fun l S2 => th G S2 fun u S3 => rSlD d l u S3 R
theorem cut_reps {K : PySem.W.Frag} {H : Hp} {S : Own} {vs : List V} {ds : List D} (r : Reps K H S vs ds) (lo hi : Option Int) : Reps K H S (cutV vs lo hi) (cutD ds lo hi) := by
  unfold cutV cutD
  rw [r.length]
  exact (r.drop _).take _
theorem sIx_min (n d : Nat) (hd : d ≤ n) (o : Option Int) : HT.sIx n d o ≤ n := HT.sIx_le n d hd o
theorem cutD_whole {ds : List D} {lo hi : Option Int} (h : HT.sIx ds.length 0 lo = 0 ∧ HT.sIx ds.length ds.length hi = ds.length) : cutD ds lo hi = ds := by
  unfold cutD
  rw [h.1, h.2, List.drop_zero, Nat.sub_zero, List.take_length]
theorem de_slice {lo hi : Option Expr} {th tl : RO} (he : JE X B e te) (hl : JO X B lo tl) (hu : JO X B hi th) : JE X B (.Subscript e (.Slice lo hi none p2) pos) (dSl te tl th) := by
  refine PE.mono (pe_slice (sl_str.or (sl_tupA.or sl_list)) he hl hu) fun σ H Q ⟨G, S, R, A, q, k⟩ => ?_
  refine ⟨G, S, _, A, q, fun x H1 ⟨d, S1, q1, f1, A1, h1⟩ => ?_⟩
  refine ⟨G, S1, _, A1, q1, fun l H2 ⟨S2, q2, f2, A2⟩ => ?_⟩
  refine ⟨G, S2, _, A2, q2, fun u H3 ⟨S3, q3, f3, A3⟩ => ?_⟩
  have h3 := h1.fr (f2.trans f3)
  have f := f1.trans (f2.trans f3)
  have lst : ∀ {a vs ds}, x = .ref a → Rd H3 a (.lst vs) → Reps X.K H3 (ov B S3) vs ds → R (.lst (cutD ds l u)) S3 → rSlL X.K x l u H3 Q := fun {a vs ds} ea h r q =>
    ⟨a, vs, ea, .inl h, fun p hp => k _ _ (QL.trans f (QL.laid A3 hp q (.lst (lstAt_new (A3.own.free hp)) ((cut_reps r l u).fr (fr_laid hp)))))⟩
  cases d with
  | str z => cases h3; exact .inl ⟨z, rfl, q3.1, k _ _ (QL.trans f (QL.here A3 q3.2 (.str _)))⟩
  | tup ds =>
    obtain ⟨a, vs, rfl, ha, r⟩ := rep_tup h3
    refine .inr (.inl ⟨a, vs, rfl, ha.sq, fun hw => ?_, fun _ p hp => ?_⟩)
    · rw [r.length] at hw
      have q4 : R (.tup (cutD ds l u)) S3 := q3
      rw [cutD_whole hw] at q4
      exact k _ _ (QL.trans f (QL.here A3 q4 h3))
    · exact k _ _ (QL.trans f (QL.laid A3 hp q3 (.tup (tupAt_new (A3.own.free hp)) ((cut_reps r l u).fr (fr_laid hp)))))
  | lst ds =>
    obtain ⟨a, vs, ea, ha, r⟩ := rep_lst h3
    exact .inr (.inr (lst ea ha.1 r q3))
  | ref a =>
    cases h3
    cases hs : S3 a with
    | none => simp only [rSlD, hs] at q3
    | some so =>
      simp only [rSlD, hs] at q3
      cases so with
      | lst ds => obtain ⟨vs, hv, r⟩ := A3.own a _ (over_some hs); exact .inr (.inr (lst rfl (.inl hv) r q3))
      | dct _ => exact q3.elim
      | dcz _ _ => exact q3.elim
      | ins _ _ => exact q3.elim
  | _ => exact q3.elim
/-- x[::-1] of a frozen list -/
def dRev (te : RE) : RE := fun G S R => te G S fun d S1 => ∃ ds, d = .lst ds ∧ R (.lst ds.reverse) S1
/-! ### calls of built-ins by name -/
abbrev RCall := List D → Own → DVK → Prop
def CallD (X : Cx) (f : Value) (r : RCall) : Prop :=
  ∀ (B : Bs) (pins : List (Addr × Obj)) (s : Shared) (σ : St) (H : Hp) (S : Own) (G : DG) (xs : List V) (us : List Value) (ds : List D) (R : DVK), Inv X pins σ H s → At X.K B H S G σ → Reps X.K H (ov B S) xs ds → Vals xs us → r ds S R →
    wpAny (model X.prog X.w) X.A (call f us) (EP X pins σ (QL X.K B G σ H S R)) X.xe s
theorem CallD.of {f : Value} {rV : List V → Hp → VK → Prop} {r : RCall} (h : CallR X f rV) (w : ∀ (B : Bs) (σ : St) (H : Hp) (S : Own) (G : DG) (xs : List V) (ds : List D) (R : DVK), At X.K B H S G σ → Reps X.K H (ov B S) xs ds → r ds S R → rV xs H (QL X.K B G σ H S R)) : CallD X f r :=
  fun B pins s σ H S G xs us ds R I A hx rx q => h pins s σ H xs us _ I rx (w B σ H S G xs ds R A hx q)
theorem CallD.or {f : Value} {r r' : RCall} (h : CallD X f r) (h' : CallD X f r') : CallD X f (fun ds S R => r ds S R ∨ r' ds S R) :=
  fun B pins s σ H S G xs us ds R I A hx rx q => q.elim (h B pins s σ H S G xs us ds R I A hx rx) (h' B pins s σ H S G xs us ds R I A hx rx)
def dCB (r : RCall) (t : RA) : RE := fun G S R => t G S fun ds S1 => r ds S1 R
theorem callB_ok {f : Value} {r : RCall} (hc : CallD X f r) (ha : JA X B es tas) {pos : Pos} {pins : List (Addr × Obj)} {s : Shared} {σ : St} {H : Hp} {S : Own} {G : DG} {R : DVK} (I : Inv X pins σ H s) (A : At X.K B H S G σ) (q : dCB r tas G S R) :
    wpAny (model X.prog X.w) X.A (spliced (backTo pos (starEach es X.env))) (fun us s1 => wpAny (model X.prog X.w) X.A (call f us) (EP X pins σ (QL X.K B G σ H S R)) X.xe s1) X.xe s :=
  thn (ha.run I A q) fun us s1 ⟨vs, H1, I1, r1, ds, S1, q1, f1, A1, h1⟩ => thn (hc B pins s1 σ H1 S1 G vs us ds R I1 A1 h1 r1 q1) fun w s2 z => ep_imp z fun v H' z => QL.trans f1 z
theorem de_callB {x : Str} {p : Pos} {id : String} {r : RCall} (hc : CallD X (.builtin id) r) (hg : Gl X x) (hm : X.mg x = none) (hv : bootBuiltins x = some (.builtin id)) (ha : JA X B (e :: es) tas) (hn : x ≠ "__name__" := by decide) (hdb : (x == ("__debug__" : Str)) = false := by decide)
    (he : starEach (e :: es) X.env = (false, eval e X.env) :: starEach es X.env := by rfl) (hpl : (backTo pos (starEach es X.env)).any (·.1) = false := by rfl) : JE X B (.Call (.Name x p) (e :: es) [] pos) (dCB r tas) := by
  have hc' : CallR X (.builtin id) (fun vs H Q => ∃ (G : DG) (S : Own) (R : DVK) (σ : St) (ds : List D), At X.K B H S G σ ∧ Reps X.K H (ov B S) vs ds ∧ r ds S R ∧ ∀ v H', QL X.K B G σ H S R v H' → Q v H') := fun pins s σ H xs us Q I rx ⟨G, S, R, σ', ds, A, hx, q, k⟩ => by
    refine thn (hc B pins s σ H S (σ.map fun _ => none) xs us ds R I ⟨A.own, ⟨by simp, fun i d e => by simp at e⟩, A.fr, A.dis⟩ hx rx q) fun w s2 ⟨v, H', I', rv, d, S', q', f', A2, h'⟩ => ⟨v, H', I', rv, k v H' ⟨d, S', q', f', A.go f' A2.own A2.dis, h'⟩⟩
  refine PE.mono (pe_callB hc' hg hm hv ha hn hdb he hpl) fun σ H Q ⟨G, S, R, A, q, k⟩ => ?_
  exact ⟨G, S, _, A, q, fun vs H1 ⟨ds, S1, q1, f1, A1, h1⟩ => ⟨G, S1, R, σ, ds, A1, h1, q1, fun v H' z => k v H' (QL.trans f1 z)⟩⟩
theorem de_callTy {x : Str} {p : Pos} {T : String} {r : RCall} (hc : CallD X (.type T) r) (hg : Gl X x) (hm : X.mg x = none) (hv : bootBuiltins x = some (.type T)) (ha : JA X B (e :: es) tas) (hn : x ≠ "__name__" := by decide) (hdb : (x == ("__debug__" : Str)) = false := by decide)
    (he : starEach (e :: es) X.env = (false, eval e X.env) :: starEach es X.env := by rfl) (hpl : (backTo pos (starEach es X.env)).any (·.1) = false := by rfl) : JE X B (.Call (.Name x p) (e :: es) [] pos) (dCB r tas) := by
  have hc' : CallR X (.type T) (fun vs H Q => ∃ (G : DG) (S : Own) (R : DVK) (σ : St) (ds : List D), At X.K B H S G σ ∧ Reps X.K H (ov B S) vs ds ∧ r ds S R ∧ ∀ v H', QL X.K B G σ H S R v H' → Q v H') := fun pins s σ H xs us Q I rx ⟨G, S, R, σ', ds, A, hx, q, k⟩ => by
    refine thn (hc B pins s σ H S (σ.map fun _ => none) xs us ds R I ⟨A.own, ⟨by simp, fun i d e => by simp at e⟩, A.fr, A.dis⟩ hx rx q) fun w s2 ⟨v, H', I', rv, d, S', q', f', A2, h'⟩ => ⟨v, H', I', rv, k v H' ⟨d, S', q', f', A.go f' A2.own A2.dis, h'⟩⟩
  refine PE.mono (pe_callTy hc' hg hm hv ha hn hdb he hpl) fun σ H Q ⟨G, S, R, A, q, k⟩ => ?_
  exact ⟨G, S, _, A, q, fun vs H1 ⟨ds, S1, q1, f1, A1, h1⟩ => ⟨G, S1, R, σ, ds, A1, h1, q1, fun v H' z => k v H' (QL.trans f1 z)⟩⟩
theorem reps1 {K : PySem.W.Frag} {H : Hp} {S : Own} {xs : List V} {d : D} (h : Reps K H S xs [d]) : ∃ x, xs = [x] ∧ Rep K H S x d := by
  cases h with
  | cons h r => cases r; exact ⟨_, rfl, h⟩
theorem reps2 {K : PySem.W.Frag} {H : Hp} {S : Own} {xs : List V} {d e : D} (h : Reps K H S xs [d, e]) : ∃ x y, xs = [x, y] ∧ Rep K H S x d ∧ Rep K H S y e := by
  cases h with
  | cons h r =>
    obtain ⟨y, rfl, hy⟩ := reps1 r
    exact ⟨_, _, rfl, h, hy⟩
def rAbs : RCall
  | [.int i], S, R => R (.int (if i < 0 then -i else i)) S
  | _, _, _ => False
theorem cd_abs : CallD X (.builtin "abs") rAbs := CallD.of call_abs fun B σ H S G xs ds R A hx q => by
  unfold rAbs at q
  split at q
  · obtain ⟨x, rfl, h⟩ := reps1 hx
    cases h
    exact ⟨_, rfl, QL.here A q (.int _)⟩
  · exact q.elim
def rIntC : RCall
  | [.int i], S, R => R (.int i) S
  | [.bl k], S, R => R (.int (if k then 1 else 0)) S
  | _, _, _ => False
theorem cd_int : CallD X (.type "int") rIntC := CallD.of call_int1 fun B σ H S G xs ds R A hx q => by
  unfold rIntC at q
  split at q
  · obtain ⟨x, rfl, h⟩ := reps1 hx
    cases h
    exact .inl ⟨_, rfl, QL.here A q (.int _)⟩
  · obtain ⟨x, rfl, h⟩ := reps1 hx
    cases h
    exact .inr ⟨_, rfl, QL.here A q (.int _)⟩
  · exact q.elim
/-- len -/
def lenD (S : Own) : D → Option Nat
  | .str z => if z.length ≤ sizeLine then some z.length else none
  | .tup ds => some ds.length
  | .lst ds => some ds.length
  | .dct es => some es.length
  | .ref a => match S a with
    | some (.lst ds) => some ds.length
    | some (.dct es) => some es.length
    | some (.dcz _ es) => some es.length
    | _ => none
  | _ => none
def rLenD : RCall
  | [d], S, R => ∃ n, lenD S d = some n ∧ R (.int (n : Nat)) S
  | _, _, _ => False
theorem dic_len {pins : List (Addr × Obj)} {s : Shared} {σ : St} {H : Hp} {S : Own} {p : Addr} {es : List (D × D)} (I : Inv X pins σ H s) (h : DicAt X.K H S p es) {Q : Value → Shared → Prop} {E : Value → Shared → Prop} (q : ∀ t s', Inv X pins σ H s' → Q (.int (es.length : Nat) t) s') :
    wpAny (model X.prog X.w) X.A (call (.builtin "len") [.ref p]) Q E s := by
  rcases h with ⟨kvs, h, r⟩ | ⟨kvs, h, r⟩
  · rw [← r.length] at q
    exact d_len I h q
  · obtain ⟨hz, hd, xs, rel, dd⟩ := dt_rd I.hok h
    rw [← r.length] at q
    have hl : kvs.length = xs.length := Paired.length rel
    rw [hl] at q hz
    have hsl := sizeLine_eq
    exact PySem.call_len_dictH hd dd (by omega) (q _ _ (I.tok _))
theorem cd_len : CallD X (.builtin "len") rLenD := by
  intro B pins s σ H S G xs us ds R I A hx rx q
  match ds, q, hx with
  | [], q, _ => exact q.elim
  | _ :: _ :: _, q, _ => exact q.elim
  | [d], q, hx =>
    obtain ⟨x, rfl, h⟩ := reps1 hx
    obtain ⟨n, hn, q⟩ := q
    obtain ⟨u, rfl, ru⟩ := vals1 rx
    have seq : ∀ {a vs ds}, x = .ref a → SqL X.K H a vs ∨ SqT X.K H a vs → Reps X.K H (ov B S) vs ds → n = ds.length → wpAny (model X.prog X.w) X.A (call (.builtin "len") [u]) (EP X pins σ (QL X.K B G σ H S R)) X.xe s := fun {a vs ds} ea hq r e => by
      subst ea e
      exact call_len_seq pins s σ H _ _ _ I rx ⟨a, vs, rfl, hq, by rw [r.length]; exact QL.here A q (.int _)⟩
    have dic : ∀ {a es}, x = .ref a → DicAt X.K H (ov B S) a es → n = es.length → wpAny (model X.prog X.w) X.A (call (.builtin "len") [u]) (EP X pins σ (QL X.K B G σ H S R)) X.xe s := fun {a es} ea hq e => by
      subst ea e; cases ru
      exact dic_len I hq fun t s' I' => ⟨.int _, H, I', ⟨t, rfl⟩, QL.here A q (.int _)⟩
    cases d with
    | str z =>
      cases h
      simp only [lenD] at hn
      split at hn
      · cases hn; exact call_len_str pins s σ H _ _ _ I rx ⟨_, rfl, by assumption, QL.here A q (.int _)⟩
      · cases hn
    | tup ds => cases hn; obtain ⟨a, vs, ea, ha, r⟩ := rep_tup h; exact seq ea (.inr ha.sq) r rfl
    | lst ds => cases hn; obtain ⟨a, vs, ea, ha, r⟩ := rep_lst h; exact seq ea (.inl ha.sq) r rfl
    | dct es => cases hn; obtain ⟨a, ea, h⟩ := DicAt.of_rep h; exact dic ea h rfl
    | ref a =>
      cases h
      cases hs : S a with
      | none => simp only [lenD, hs] at hn; cases hn
      | some o =>
        simp only [lenD, hs] at hn
        cases o with
        | lst ds => cases hn; obtain ⟨vs, h1, r⟩ := A.own a _ (over_some hs); exact seq rfl (.inl (.inl (.inl h1))) r rfl
        | dct es => cases hn; exact dic rfl (DicAt.of_own A.own (over_some hs)) rfl
        | dcz z es => cases hn; exact dic rfl (DicAt.of_ownZ A.own (over_some hs)) rfl
        | ins _ _ => cases hn
    | _ => cases hn
/-- list(x), tuple(x) of a sequence, frozen -/
def seqD (S : Own) : D → Option (List D)
  | .tup ds => some ds
  | .lst ds => some ds
  | .ref a => match S a with
    | some (.lst ds) => some ds
    | _ => none
  | _ => none
theorem seqD_at {K : PySem.W.Frag} {H : Hp} {S Z : Own} {x : V} {d : D} {ds : List D} (W : Owns K H (over S Z)) (h : Rep K H (over S Z) x d) (e : seqD S d = some ds) : ∃ a vs, x = .ref a ∧ (SqL K H a vs ∨ SqT K H a vs) ∧ Reps K H (over S Z) vs ds := by
  cases d with
  | tup ds' => cases e; obtain ⟨a, vs, rfl, ha, r⟩ := rep_tup h; exact ⟨a, vs, rfl, .inr ha.sq, r⟩
  | lst ds' => cases e; obtain ⟨a, vs, rfl, ha, r⟩ := rep_lst h; exact ⟨a, vs, rfl, .inl ha.sq, r⟩
  | ref a =>
    obtain ⟨a', vs, rfl, ha, r⟩ := lstOf_at W h (by
      unfold seqD at e; unfold lstOf
      exact e)
    exact ⟨a', vs, rfl, .inl (.inl ha), r⟩
  | _ => cases e
def rListC : RCall
  | [d], S, R => ∃ ds, seqD S d = some ds ∧ R (.lst ds) S
  | _, _, _ => False
def rListO : RCall
  | [d], S, R => ∃ ds, seqD S d = some ds ∧ ∀ p, S p = none → R (.ref p) (S.put p (.lst ds))
  | _, _, _ => False
def rTupleC : RCall
  | [d], S, R => ∃ ds, seqD S d = some ds ∧ R (.tup ds) S
  | _, _, _ => False
theorem cd_list : CallD X (.type "list") rListC := CallD.of call_list_of fun B σ H S G xs ds R A hx q => by
  unfold rListC at q
  split at q
  · obtain ⟨x, rfl, h⟩ := reps1 hx
    obtain ⟨ds, e, q⟩ := q
    obtain ⟨a, vs, rfl, hs, r⟩ := seqD_at A.own h e
    exact ⟨a, vs, rfl, hs, fun p hp => QL.laid A hp q (.lst (lstAt_new (A.own.free hp)) (r.fr (fr_laid hp)))⟩
  · exact q.elim
theorem cd_listO : CallD X (.type "list") rListO := CallD.of call_list_of fun B σ H S G xs ds R A hx q => by
  unfold rListO at q
  split at q
  · obtain ⟨x, rfl, h⟩ := reps1 hx
    obtain ⟨ds, e, q⟩ := q
    obtain ⟨a, vs, rfl, hs, r⟩ := seqD_at A.own h e
    exact ⟨a, vs, rfl, hs, fun p hp => QL.laidO A hp (q p (A.free hp).1) ⟨vs, upd_same, r.fr (fr_laidO hp)⟩⟩
  · exact q.elim
theorem cd_tuple : CallD X (.type "tuple") rTupleC := CallD.of call_tuple_of fun B σ H S G xs ds R A hx q => by
  match ds, q, hx with
  | [], q, _ => exact q.elim
  | _ :: _ :: _, q, _ => exact q.elim
  | [d], q, hx =>
    obtain ⟨x, rfl, h⟩ := reps1 hx
    obtain ⟨ds, e, q⟩ := q
    cases d with
    | tup ds' =>
      cases e
      obtain ⟨a, vs, rfl, ha, r⟩ := rep_tup h
      exact ⟨a, vs, rfl, .inr ⟨ha.sq, QL.here A q h⟩⟩
    | lst ds' =>
      cases e
      obtain ⟨a, vs, rfl, ha, r⟩ := rep_lst h
      exact ⟨a, vs, rfl, .inl ⟨ha.sq, fun p hp => QL.laid A hp q (.tup (tupAt_new (A.own.free hp)) (r.fr (fr_laid hp)))⟩⟩
    | ref a =>
      obtain ⟨a', vs, rfl, ha, r⟩ := lstOf_at A.own h (show lstOf S (.ref a) = some ds by unfold seqD at e; unfold lstOf; exact e)
      exact ⟨a', vs, rfl, .inl ⟨.inl ha, fun p hp => QL.laid A hp q (.tup (tupAt_new (A.own.free hp)) (r.fr (fr_laid hp)))⟩⟩
    | _ => cases e
/-! ### methods of built-ins -/
def tyD (S : Own) : D → String
  | .str _ => "str"
  | .int _ => "int"
  | .lst _ => "list"
  | .tup _ => "tuple"
  | .dct _ => "dict"
  | .ref a => match S a with
    | some (.lst _) => "list"
    | some (.dct _) => "dict"
    | some (.dcz _ _) => "dict"
    | _ => ""
  | _ => ""
theorem tyD_is {pins : List (Addr × Obj)} {σ : St} {H : Hp} {S Z : Own} {s : Shared} {T : String} {x : V} {v : Value} {d : D} (I : Inv X pins σ H s) (W : Owns X.K H (over S Z)) (h : Rep X.K H (over S Z) x d) (r : RelV x v) (ty : tyD S d = T) (hT : T ≠ "" := by decide) (hT2 : T ≠ "tuple" := by decide) :
    s.TypeIs v T ∧ ∀ a, v = .ref a → ∃ ob, s.heap.get? a = some ob ∧ ob.dict = none := by
  have lst : ∀ {a vs}, x = .ref a → Rd H a (.lst vs) → s.TypeIs v "list" ∧ ∀ a, v = .ref a → ∃ ob, s.heap.get? a = some ob ∧ ob.dict = none := fun {a vs} ea hq => by
    subst ea; cases r
    obtain ⟨_, its, n, _, _, e⟩ := lstR I hq
    exact ⟨⟨_, e, rfl⟩, fun b q => by cases q; exact ⟨_, e, rfl⟩⟩
  have dic : ∀ {a es}, x = .ref a → DicAt X.K H (over S Z) a es → s.TypeIs v "dict" ∧ ∀ a, v = .ref a → ∃ ob, s.heap.get? a = some ob ∧ ob.dict = none := fun {a es} ea hq => by
    subst ea; cases r
    obtain ⟨_, o, e, ex⟩ := hq.obj I
    exact ⟨⟨_, e, ex.1⟩, fun b q => by cases q; exact ⟨_, e, ex.2.1⟩⟩
  cases d with
  | str z => cases h; cases ty; obtain ⟨t, rfl⟩ := r; exact ⟨typeIs_str s z t, fun _ e => nomatch e⟩
  | int z => cases h; cases ty; obtain ⟨t, rfl⟩ := r; exact ⟨typeIs_int s z t, fun _ e => nomatch e⟩
  | lst ds => cases ty; obtain ⟨a, vs, ea, ha, _⟩ := rep_lst h; exact lst ea ha.1
  | tup ds => exact absurd ty.symm hT2
  | dct es => cases ty; obtain ⟨a, ea, h⟩ := DicAt.of_rep h; exact dic ea h
  | ref a =>
    cases h
    cases hs : S a with
    | none => simp only [tyD, hs] at ty; exact absurd ty.symm hT
    | some o =>
      simp only [tyD, hs] at ty
      cases o with
      | lst ds => cases ty; obtain ⟨vs, h1, r⟩ := W a _ (over_some hs); exact lst rfl (.inl h1)
      | dct es => cases ty; exact dic rfl (DicAt.of_own W (over_some hs))
      | dcz _ es => cases ty; exact dic rfl (DicAt.of_ownZ W (over_some hs))
      | ins _ _ => exact absurd ty.symm hT
  | non => exact absurd ty.symm hT
  | bl _ => exact absurd ty.symm hT
  | ty _ => exact absurd ty.symm hT
abbrev RMt := D → List D → Own → DVK → Prop
def MtD (X : Cx) (id : String) (r : RMt) : Prop :=
  ∀ (B : Bs) (pins : List (Addr × Obj)) (s : Shared) (σ : St) (H : Hp) (S : Own) (G : DG) (x : V) (xs : List V) (v : Value) (us : List Value) (d : D) (ds : List D) (R : DVK), Inv X pins σ H s → At X.K B H S G σ → Rep X.K H (ov B S) x d → Reps X.K H (ov B S) xs ds → RelV x v → Vals xs us → r d ds S R →
    wpAny (model X.prog X.w) X.A (call (.builtin id) (v :: us)) (EP X pins σ (QL X.K B G σ H S R)) X.xe s
theorem MtD.of {id : String} {rV : V → List V → Hp → VK → Prop} {r : RMt} (h : MtR X id rV) (w : ∀ (B : Bs) (σ : St) (H : Hp) (S : Own) (G : DG) (x : V) (xs : List V) (d : D) (ds : List D) (R : DVK), At X.K B H S G σ → Rep X.K H (ov B S) x d → Reps X.K H (ov B S) xs ds → r d ds S R → rV x xs H (QL X.K B G σ H S R)) : MtD X id r :=
  fun B pins s σ H S G x xs v us d ds R I A hd hx rv rx q => h pins s σ H x xs v us _ I rv rx (w B σ H S G x xs d ds R A hd hx q)
def dBM0 (T : String) (r : RMt) (to : RE) : RE := fun G S R => to G S fun d S1 => tyD S1 d = T ∧ r d [] S1 R
def dBM (T : String) (r : RMt) (to : RE) (t : RA) : RE := fun G S R => to G S fun d S1 => tyD S1 d = T ∧ t G S1 fun ds S2 => r d ds S2 R
theorem de_bm0 {T id : String} {name : Str} {r : RMt} (pa : PlainAttrs T) (slot : Slot T name id) (hty : typeOf (.builtin id) = pure (.type "method_descriptor")) (hm : MtD X id r) (ho : JE X B o to) (hT : T ≠ "" := by decide) (hT2 : T ≠ "tuple" := by decide)
    (hbase : attributeBase o name X.env (eval o X.env) = eval o X.env := by rfl) (hline : (apos.endLine == cpos.line) = true := by rfl) : JE X B (.Call (.Attribute o name apos) [] [] cpos) (dBM0 T r to) := by
  refine JE.mk fun pins s σ H S G R I A q => ?_
  refine wpAny_Call_method0_late hbase hline (thn (ho.run I A q) fun v s1 ⟨x, H1, I1, r1, d, S1, ⟨ty, q1⟩, f1, A1, h1⟩ => ?_)
  obtain ⟨t1, t2⟩ := tyD_is I1 A1.own h1 r1 ty hT hT2
  exact ⟨T, id, pa, slot, hty, t1, t2, Calls.callWith_builtin rfl (PySem.evalArgs_none (thn (hm B pins s1 σ H1 S1 G x [] v [] d [] R I1 A1 h1 .nil r1 .nil q1) fun w s2 z => ep_imp z fun v H' z => QL.trans f1 z))⟩
theorem de_bm {T id : String} {name : Str} {r : RMt} (pa : PlainAttrs T) (slot : Slot T name id) (hty : typeOf (.builtin id) = pure (.type "method_descriptor")) (hm : MtD X id r) (ho : JE X B o to) (ha : JA X B (e :: es) tas) (hT : T ≠ "" := by decide) (hT2 : T ≠ "tuple" := by decide)
    (hbase : attributeBase o name X.env (eval o X.env) = eval o X.env := by rfl)
    (hfew : ((backTo cpos (starEach (e :: es) X.env)).all (fun x => !x.1) && (backToKw cpos (keywordEach [] X.env)).all (fun x => x.1.isSome)
      && decide ((e :: es).length + ([] : List Keyword).length + (if ([] : List Keyword).isEmpty then 0 else 1) < 30)) = true := by rfl)
    (hline : (apos.endLine == cpos.line) = true := by rfl) (hs : starEach (e :: es) X.env = (false, eval e X.env) :: starEach es X.env := by rfl) (hplain : (backTo cpos (starEach es X.env)).any (·.1) = false := by rfl) :
    JE X B (.Call (.Attribute o name apos) (e :: es) [] cpos) (dBM T r to tas) := by
  refine JE.mk fun pins s σ H S G R I A q => ?_
  refine wpAny_Call_method_late hbase hfew hline rfl (thn (ho.run I A q) fun v s1 ⟨x, H1, I1, r1, d, S1, ⟨ty, q1⟩, f1, A1, h1⟩ => ?_)
  obtain ⟨t1, t2⟩ := tyD_is I1 A1.own h1 r1 ty hT hT2
  refine ⟨T, id, pa, slot, hty, t1, t2, ?_⟩
  have hA := ha.run (pos := cpos) I1 A1 q1
  rw [hs] at hA ⊢
  refine Calls.callWith_builtin (by show (false || (backTo cpos (starEach es X.env)).any (·.1)) = false; rw [hplain] <;> rfl) (Calls.evalArgs_plain ?_)
  exact thn hA fun us s2 ⟨vs, H2, I2, r2, ds, S2, q2, f2, A2, h2⟩ => thn (hm B pins s2 σ H2 S2 G x vs v us d ds R I2 A2 (h1.fr f2) h2 r1 r2 q2) fun w s3 z => ep_imp z fun v H' z => QL.trans (f1.trans f2) z
end
end DL
namespace DL
open PySem PySem.Spec PyProof.Rows L2
/-! ### targets -/
abbrev RG := D → DG → Own → (DG → Own → Prop) → Prop
abbrev RGs := List D → DG → Own → (DG → Own → Prop) → Prop
/-- .. of which the names at vs alone are stored -/
def liftG (K : PySem.W.Frag) (B : Bs) (vs : List Nat) (g : RG) : TG := fun v σ H Q => ∃ G S d R, At K B H S G σ ∧ Rep K H (ov B S) v d ∧ g d G S R ∧ ∀ G' S' σ' H', R G' S' → Fr H (ov B S) H' (ov B S') → At K B H' S' G' σ' → wipe σ' vs = wipe σ vs → Q σ' H'
def liftGs (K : PySem.W.Frag) (B : Bs) (vs : List Nat) (g : RGs) : TGs := fun xs σ H Q => ∃ G S ds R, At K B H S G σ ∧ Reps K H (ov B S) xs ds ∧ g ds G S R ∧ ∀ G' S' σ' H', R G' S' → Fr H (ov B S) H' (ov B S') → At K B H' S' G' σ' → wipe σ' vs = wipe σ vs → Q σ' H'
abbrev JG (X : Cx) (B : Bs) (vs : List Nat) (e : Expr) (g : RG) : Prop := PG X e (liftG X.K B vs g)
abbrev JGs (X : Cx) (B : Bs) (vs : List Nat) (e : List Expr) (g : RGs) : Prop := PGs X e (liftGs X.K B vs g)
theorem set_set_same {α : Type} (l : List α) (i : Nat) (a b : α) : (l.set i a).set i b = l.set i b := by simp
theorem wipe_set (σ : St) (i : Nat) (x : Option V) : ∀ vs : List Nat, wipe (σ.set i x) vs = if i ∈ vs then wipe σ vs else (wipe σ vs).set i x
  | [] => by simp [wipe]
  | v :: vs => by
    unfold wipe
    rw [wipe_set σ i x vs]
    by_cases h : i ∈ vs
    · rw [if_pos h, if_pos (List.mem_cons_of_mem _ h)]
    · rw [if_neg h]
      by_cases e : i = v
      · subst e
        rw [if_pos List.mem_cons_self, set_set_same]
      · rw [if_neg (by simp [h, e]), List.set_comm _ _ e]
theorem wipe_in {σ : St} {i : Nat} {x : Option V} {vs : List Nat} (h : i ∈ vs) : wipe (σ.set i x) vs = wipe σ vs := by rw [wipe_set, if_pos h]
section
variable {X : Cx} {B : Bs} {vs : List Nat} {e : Expr} {es : List Expr} {pos : Pos}
theorem PG.mono {t t' : TG} (h : PG X e t) (w : ∀ v σ H Q, t' v σ H Q → t v σ H Q) : PG X e t' := ⟨fun pins s σ H v u Q I r q => h.run pins s σ H v u Q I r (w _ _ _ _ q)⟩
theorem PGs.mono {t t' : TGs} (h : PGs X es t) (w : ∀ v σ H Q, t' v σ H Q → t v σ H Q) : PGs X es t' := ⟨fun pins s σ H v u Q I r q => h.run pins s σ H v u Q I r (w _ _ _ _ q)⟩
def dgName (i : Nat) : RG := fun d G S R => R (G.set i (some d)) S
theorem dg_name {i : Nat} {x : Str} (hv : i ∈ vs) (hN : X.N.Nodup) (hi : X.N[i]? = some x) (hx : Loc X.env.scope x) (hf : X.fn x = true ∨ X.env.scope.names.lookup x = some .local := by first | exact .inl rfl | exact .inr rfl | assumption) : JG X B vs (.Name x pos) (dgName i) :=
  PG.mono (pg_name hN hi hx hf) fun v σ H Q ⟨G, S, d, R, A, h, q, k⟩ => k _ S _ H q (Fr.refl _ _) ⟨A.own, A.env.set i h, A.fr, A.dis⟩ (wipe_in hv)
def dgNil : RGs := fun ds G S R => ds = [] ∧ R G S
def dgCons (t : RG) (u : RGs) : RGs := fun ds G S R => ∃ d r, ds = d :: r ∧ t d G S fun G1 S1 => u r G1 S1 R
theorem dgs_nil : JGs X B vs [] dgNil := PGs.mono pgs_nil fun v σ H Q ⟨G, S, d, R, A, h, ⟨e, q⟩, k⟩ => by
  subst e; cases h
  exact ⟨rfl, k G S σ H q (Fr.refl _ _) A rfl⟩
theorem dgs_cons {t : RG} {u : RGs} (h1 : JG X B vs e t) (h2 : JGs X B vs es u) (hs : (assignEach (e :: es) X.env).map (·.2) = assign e X.env :: (assignEach es X.env).map (·.2) := by rfl) : JGs X B vs (e :: es) (dgCons t u) :=
  PGs.mono (pgs_cons h1 h2 hs) fun v σ H Q ⟨G, S, ds, R, A, h, ⟨d, r, e, q⟩, k⟩ => by
    subst e
    cases h with
    | cons h hr =>
      refine ⟨_, _, rfl, G, S, d, _, A, h, q, fun G' S' σ' H' z f A' w => ⟨G', S', r, R, A', hr.fr f, z, fun G2 S2 σ2 H2 z2 f2 A2 w2 => k G2 S2 σ2 H2 z2 (f.trans f2) A2 (w2.trans w)⟩⟩
def dgTup (n : Nat) (t : RGs) : RG := fun d G S R => ∃ ds, d = .tup ds ∧ ds.length = n ∧ t ds G S R
theorem dg_tup {k : Nat} {t : RGs} {n : Nat} (hc : X.calm = true) (h : JGs X B vs es t) (hn : (assignEach es X.env).length = n := by rfl) (hst : (assignEach es X.env).findIdx? (·.1) = none := by rfl) : JG X B vs (.Tuple es k pos) (dgTup n t) :=
  PG.mono (pg_tup hc h hn hst) fun v σ H Q ⟨G, S, d, R, A, h, ⟨ds, e, hl, q⟩, k⟩ => by
    subst e
    obtain ⟨a, vs, rfl, ha, r⟩ := rep_tup h
    exact ⟨a, vs, rfl, ha.sq, by rw [r.length]; exact hl, G, S, ds, R, A, r, q, k⟩
def dAsg (te : RE) (g : RG) : RS := fun D G S => te G S fun d S1 => g d G S1 D.nx
theorem ds_asg {tg : Expr} {te : RE} {g : RG} (he : JE X B e te) (hg : JG X B vs tg g) (hs : swapsWithSole [tg] e pos.line X.env = pure false := by rfl) (hw : swappedStores [tg] e X.env = pure none := by rfl)
    (h1 : (assignEach [tg] X.env).map (·.2) = [assign tg X.env] := by rfl) : JS X B (.Assign [tg] e pos) (dAsg te g) := PS.mono (ps_asg he hg hs hw h1) fun D σ H ⟨G, S, DD, A, q, k⟩ =>
  ⟨G, S, _, A, q, fun v H1 ⟨d, S1, q1, f1, A1, h1⟩ => ⟨G, S1, d, _, A1, h1, q1, fun G' S' σ' H' z f A' _ => k.nx G' S' σ' H' z (f1.trans f) A'⟩⟩
/-- a, b = x, y of plain local names -/
def dPar (i j : Nat) (ta : RA) : RS := fun D G S => ta G S fun ds S1 => ∃ d e, ds = [d, e] ∧ D.nx ((G.set i (some d)).set j (some e)) S1
theorem ds_par {i j : Nat} {x y : Str} {a b : Expr} {ta : RA} {px py pt : Pos} {kt k2 pt2} (hc : X.calm = true) (hN : X.N.Nodup) (hi : X.N[i]? = some x) (hj : X.N[j]? = some y) (hij : i ≠ j)
    (hx : X.env.scope.names.lookup x = some .local) (hy : X.env.scope.names.lookup y = some .local) (ha : JA X B [a, b] ta)
    (hw : swappedStores [.Tuple [.Name x px, .Name y py] kt pt] (.Tuple [a, b] k2 pt2) X.env = pure (some [x, y]))
    (hs : swapsWithSole [.Tuple [.Name x px, .Name y py] kt pt] (.Tuple [a, b] k2 pt2) pos.line X.env = pure false := by rfl) :
    JS X B (.Assign [.Tuple [.Name x px, .Name y py] kt pt] (.Tuple [a, b] k2 pt2) pos) (dPar i j ta) := PS.mono (ps_par hc hN hi hj hij hx hy ha hw hs) fun D σ H ⟨G, S, DD, A, q, k⟩ =>
  ⟨G, S, _, A, q, fun vs H1 ⟨ds, S1, ⟨d, e, ed, q1⟩, f1, A1, h1⟩ => by
    subst ed
    obtain ⟨v, w, rfl, hv, hw⟩ := reps2 h1
    exact ⟨v, w, rfl, k.nx _ S1 _ H1 q1 f1 ⟨A1.own, (A1.env.set i hv).set j hw, A1.fr, A1.dis⟩⟩⟩
end
/-! ### what is walked: the items, what must hold of the flight at each turn -/
structure ItsD (K : PySem.W.Frag) (J : It) (items : List D) (Pd : Own → Prop) (Gd : Hp → Own → Prop) : Prop where
  go : ∀ i H S Z, Gd H (over S Z) → Pd S → Owns K H (over S Z) → i < items.length → J.go i H
  stop : ∀ i H S Z, Gd H (over S Z) → Pd S → Owns K H (over S Z) → items.length ≤ i → J.stop i H
  yld : ∀ i x H H' S Z, Gd H (over S Z) → Pd S → Owns K H (over S Z) → i < items.length → J.yld i H x H' → ∃ d, items[i]? = some d ∧ Fr H (over S Z) H' (over S Z) ∧ Owns K H' (over S Z) ∧ Rep K H' (over S Z) x d
  keep : ∀ H T H' T', Gd H T → Fr H T H' T' → Gd H' T'
abbrev RI := DG → Own → (List D → (Own → Prop) → Own → Prop) → Prop
def liftI (K : PySem.W.Frag) (B : Bs) (t : RI) : TI := fun σ H R => ∃ G S RR, At K B H S G σ ∧ t G S RR ∧ ∀ J items Pd Gd H' S', RR items Pd S' → Fr H (ov B S) H' (ov B S') → At K B H' S' G σ → ItsD K J items Pd Gd → Gd H' (ov B S') → R J H'
abbrev JI (X : Cx) (B : Bs) (tg iter : Expr) (t : RI) : Prop := PI X tg iter (liftI X.K B t)
theorem PI.mono {X : Cx} {tg e : Expr} {t t' : TI} (h : PI X tg e t) (w : ∀ σ H Q, t' σ H Q → t σ H Q) : PI X tg e t' := ⟨fun pins s σ H R I q => h.run pins s σ H R I (w _ _ _ q)⟩
def forRun (g : RG) (tb : RS) (Pd : Own → Prop) (Dn : DEnds) : List D → DG → Own → Prop
  | [], G, S => Pd S ∧ Dn.nx G S
  | x :: r, G, S => Pd S ∧ g x G S fun G1 S1 => tb { nx := forRun g tb Pd Dn r, rt := Dn.rt, bk := Dn.nx, ct := forRun g tb Pd Dn r } G1 S1
def dFor (ti : RI) (g : RG) (tb : RS) : RS := fun D G S => ti G S fun items Pd S1 => forRun g tb Pd D items G S1
section
variable {X : Cx} {B : Bs} {vs : List Nat} {tg iter : Expr} {body : List Stmt} {ti : RI} {g : RG} {tb : RS} {pos : Pos}
theorem ds_for (hp : PassesOwn (model X.prog X.w) X.A X.env X.xe) (hc : X.calm = true) (hi : JI X B tg iter ti) (hg : JG X B vs tg g) (hb : JSs X B body tb)
    (hs : ∀ x, foldedSetIterable iter X.env x = pure x) : JS X B (.For tg iter body [] pos) (dFor ti g tb) := by
  refine PS.mono (ps_for hp hc hi hg hb hs) fun D σ H ⟨G, S, DD, A, q, k⟩ => ?_
  refine ⟨G, S, _, A, q, fun J items Pd Gd H1 S1 q1 f1 A1 T g1 => ?_⟩
  refine ⟨fun i m σ2 H2 => m = items.length - i ∧ i ≤ items.length ∧ ∃ G2 S2, At X.K B H2 S2 G2 σ2 ∧ Gd H2 (ov B S2) ∧ Fr H (ov B S) H2 (ov B S2) ∧ forRun g tb Pd DD (items.drop i) G2 S2, ⟨items.length, by simp, Nat.zero_le _, G, S1, A1, g1, f1, q1⟩, ?_⟩
  rintro i m σ2 H2 ⟨rfl, hi, G2, S2, A2, g2, f2, q2⟩
  by_cases hlt : i < items.length
  · rw [List.drop_eq_getElem_cons hlt] at q2
    obtain ⟨pd, q2⟩ := q2
    refine .inr ⟨T.go i H2 S2 B.z g2 pd A2.own hlt, fun σ3 H3 => ∃ G3 S3, At X.K B H3 S3 G3 σ3 ∧ Gd H3 (ov B S3) ∧ Fr H (ov B S) H3 (ov B S3) ∧ forRun g tb Pd DD (items.drop (i + 1)) G3 S3,
      fun σ3 H3 h3 => ⟨items.length - (i + 1), by omega, rfl, hlt, h3⟩, fun x H3 y => ?_⟩
    obtain ⟨d, ed, f3, W3, h3⟩ := T.yld i x H2 H3 S2 B.z g2 pd A2.own hlt y
    have ed' : d = items[i] := by
      rw [List.getElem?_eq_getElem hlt] at ed
      exact (Option.some.inj ed).symm
    subst ed'
    refine ⟨G2, S2, _, _, A2.go f3 W3 A2.dis, h3, q2, fun G4 S4 σ4 H4 q4 f4 A4 _ => ?_⟩
    have f34 := f3.trans f4
    refine ⟨G4, S4, _, A4, q4, ⟨fun G5 S5 σ5 H5 q5 f5 A5 => ⟨G5, S5, A5, T.keep _ _ _ _ g2 (f34.trans f5), f2.trans (f34.trans f5), q5⟩, fun d S5 v H5 q5 f5 W5 dd h5 => k.rt d S5 v H5 q5 (f2.trans (f34.trans f5)) W5 dd h5,
      fun G5 S5 σ5 H5 q5 f5 A5 => k.nx G5 S5 σ5 H5 q5 (f2.trans (f34.trans f5)) A5, fun G5 S5 σ5 H5 q5 f5 A5 => ⟨G5, S5, A5, T.keep _ _ _ _ g2 (f34.trans f5), f2.trans (f34.trans f5), q5⟩⟩⟩
  · have e : i = items.length := by omega
    subst e
    rw [List.drop_length] at q2
    exact .inl ⟨T.stop _ H2 S2 B.z g2 q2.1 A2.own (Nat.le_refl _), k.nx G2 S2 σ2 H2 q2.2 f2 A2⟩
end
/-! ### sources -/
section
variable {X : Cx} {B : Bs} {tg e : Expr} {te : RE} {tas : RA} {pos : Pos}
/-- a list, a tuple: frozen, or a list in flight that the body leaves -/
theorem its_lst {K : PySem.W.Frag} {a : Addr} {ds : List D} : ItsD K (Itl K a) ds (fun _ => True) (fun H T => ∃ vs, LstAt H T a vs ∧ Reps K H T vs ds) where
  go := fun i H S Z ⟨vs, h, r⟩ _ _ hi => by
    rw [← r.length] at hi
    exact ⟨vs, vs[i], h.sq, by simp [hi]⟩
  stop := fun i H S Z ⟨vs, h, r⟩ _ _ hi => ⟨vs, h.sq, by rw [r.length]; exact hi⟩
  yld := fun i x H H' S Z ⟨vs, h, r⟩ _ W hi y => by
    obtain ⟨rfl, y⟩ := y
    obtain ⟨d, e, h2⟩ := r.get' (y vs h.sq)
    exact ⟨d, e, Fr.refl _ _, W, h2⟩
  keep := fun H T H' T' ⟨vs, h, r⟩ f => ⟨vs, f.rd h.1 h.2, r.fr f⟩
theorem its_tup {K : PySem.W.Frag} {a : Addr} {ds : List D} : ItsD K (Itt K a) ds (fun _ => True) (fun H T => ∃ vs, TupAt H T a vs ∧ Reps K H T vs ds) where
  go := fun i H S Z ⟨vs, h, r⟩ _ _ hi => by
    rw [← r.length] at hi
    exact ⟨vs, vs[i], h.sq, by simp [hi]⟩
  stop := fun i H S Z ⟨vs, h, r⟩ _ _ hi => ⟨vs, h.sq, by rw [r.length]; exact hi⟩
  yld := fun i x H H' S Z ⟨vs, h, r⟩ _ W hi y => by
    obtain ⟨rfl, y⟩ := y
    obtain ⟨d, e, h2⟩ := r.get' (y vs h.sq)
    exact ⟨d, e, Fr.refl _ _, W, h2⟩
  keep := fun H T H' T' ⟨vs, h, r⟩ f => ⟨vs, f.tup h, r.fr f⟩
theorem its_own {K : PySem.W.Frag} {a : Addr} {ds : List D} : ItsD K (Itl K a) ds (fun S => S a = some (.lst ds)) (fun _ _ => True) where
  go := fun i H S Z _ h W hi => by
    obtain ⟨vs, hv, r⟩ := W a _ (over_some h)
    rw [← r.length] at hi
    exact ⟨vs, vs[i], SqL.of hv, by simp [hi]⟩
  stop := fun i H S Z _ h W hi => by
    obtain ⟨vs, hv, r⟩ := W a _ (over_some h)
    exact ⟨vs, SqL.of hv, by rw [r.length]; exact hi⟩
  yld := fun i x H H' S Z _ h W hi y => by
    obtain ⟨rfl, y⟩ := y
    obtain ⟨vs, hv, r⟩ := W a _ (over_some h)
    obtain ⟨d, e, h2⟩ := r.get' (y vs (SqL.of hv))
    exact ⟨d, e, Fr.refl _ _, W, h2⟩
  keep := fun _ _ _ _ _ _ => trivial
def diLst (te : RE) : RI := fun G S R => te G S fun d S1 => match d with
  | .lst ds => R ds (fun _ => True) S1
  | .ref a => ∃ ds, S1 a = some (.lst ds) ∧ R ds (fun S => S a = some (.lst ds)) S1
  | _ => False
theorem di_lst (he : JE X B e te) : JI X B tg e (diLst te) := PI.mono (pi_list he) fun σ H Q ⟨G, S, R, A, q, k⟩ => by
  refine ⟨G, S, _, A, q, fun v H1 ⟨d, S1, q1, f1, A1, h1⟩ => ?_⟩
  cases d with
  | lst ds =>
    obtain ⟨a, vs, rfl, ha, r⟩ := rep_lst h1
    exact ⟨a, rfl, ⟨vs, ha.sq⟩, k _ ds _ _ H1 S1 q1 f1 A1 its_lst ⟨vs, ha, r⟩⟩
  | ref a =>
    cases h1
    obtain ⟨ds, hs, q1⟩ := q1
    obtain ⟨vs, hv, r⟩ := A1.own a _ (over_some hs)
    exact ⟨a, rfl, ⟨vs, SqL.of hv⟩, k _ ds _ _ H1 S1 q1 f1 A1 its_own trivial⟩
  | _ => exact q1.elim
def diTup (te : RE) : RI := fun G S R => te G S fun d S1 => ∃ ds, d = .tup ds ∧ R ds (fun _ => True) S1
theorem di_tup (he : JE X B e te) : JI X B tg e (diTup te) := PI.mono (pi_tup he) fun σ H Q ⟨G, S, R, A, q, k⟩ => by
  refine ⟨G, S, _, A, q, fun v H1 ⟨d, S1, ⟨ds, ed, q1⟩, f1, A1, h1⟩ => ?_⟩
  subst ed
  obtain ⟨a, vs, rfl, ha, r⟩ := rep_tup h1
  exact ⟨a, rfl, ⟨vs, ha.sq⟩, k _ ds _ _ H1 S1 q1 f1 A1 its_tup ⟨vs, ha, r⟩⟩
def rng (lo : Int) (n : Nat) : List D := (List.range n).map fun (i : Nat) => D.int (lo + (i : Nat))
theorem its_rng {K : PySem.W.Frag} {lo : Int} {n : Nat} : ItsD K (Itr lo n) (rng lo n) (fun _ => True) (fun _ _ => True) where
  go := fun i H S Z _ _ _ hi => by show i < n; simpa [rng] using hi
  stop := fun i H S Z _ _ _ hi => by show n ≤ i; simpa [rng] using hi
  yld := fun i x H H' S Z _ _ W hi y => by
    obtain ⟨rfl, rfl⟩ := y
    have hi' : i < n := by simpa [rng] using hi
    exact ⟨.int (lo + (i : Nat)), by simp [rng, hi'], Fr.refl _ _, W, .int _⟩
  keep := fun _ _ _ _ _ _ => trivial
def diRng1 (ta : RA) : RI := fun G S R => ta G S fun ds S1 => ∃ j : Int, ds = [.int j] ∧ -(2 ^ 62) ≤ j ∧ j < 2 ^ 62 ∧ R (rng 0 j.toNat) (fun _ => True) S1
theorem di_range1 {a : Expr} {p : Pos} (hg : Gl X "range") (hm : X.mg "range" = none) (ha : JA X B [a] tas) (hs : starEach [a] X.env = [(false, eval a X.env)] := by rfl) : JI X B tg (.Call (.Name "range" p) [a] [] pos) (diRng1 tas) :=
  PI.mono (pi_range1 hg hm ha hs) fun σ H Q ⟨G, S, R, A, q, k⟩ => by
    refine ⟨G, S, _, A, q, fun vs H1 ⟨ds, S1, ⟨j, ed, b1, b2, q1⟩, f1, A1, h1⟩ => ?_⟩
    subst ed
    obtain ⟨x, rfl, hx⟩ := reps1 h1
    cases hx
    exact ⟨j, rfl, b1, b2, k _ _ _ _ H1 S1 q1 f1 A1 its_rng trivial⟩
def diRng2 (ta : RA) : RI := fun G S R => ta G S fun ds S1 => ∃ i j : Int, ds = [.int i, .int j] ∧ (-(2 ^ 62) ≤ i ∧ i < 2 ^ 62 ∧ -(2 ^ 62) ≤ j ∧ j < 2 ^ 62) ∧ R (rng i (j - i).toNat) (fun _ => True) S1
theorem di_range2 {a b : Expr} {p : Pos} (hg : Gl X "range") (hm : X.mg "range" = none) (ha : JA X B [a, b] tas) (hs : starEach [a, b] X.env = [(false, eval a X.env), (false, eval b X.env)] := by rfl) (hs2 : starEach [b] X.env = [(false, eval b X.env)] := by rfl) : JI X B tg (.Call (.Name "range" p) [a, b] [] pos) (diRng2 tas) :=
  PI.mono (pi_range2 hg hm ha hs hs2) fun σ H Q ⟨G, S, R, A, q, k⟩ => by
    refine ⟨G, S, _, A, q, fun vs H1 ⟨ds, S1, ⟨i, j, ed, b1, q1⟩, f1, A1, h1⟩ => ?_⟩
    subst ed
    obtain ⟨x, y, rfl, hx, hy⟩ := reps2 h1
    cases hx; cases hy
    exact ⟨i, j, rfl, b1, k _ _ _ _ H1 S1 q1 f1 A1 its_rng trivial⟩
/-- a text, sign by sign -/
def signs (z : Str) : List D := z.cps.toList.map fun c => .str ⟨#[c]⟩
theorem its_str {K : PySem.W.Frag} {z : Str} : ItsD K (Its z) (signs z) (fun _ => True) (fun _ _ => True) where
  go := fun i H S Z _ _ _ hi => by show i < z.cps.size; simpa [signs] using hi
  stop := fun i H S Z _ _ _ hi => by show z.cps.size ≤ i; simpa [signs] using hi
  yld := fun i x H H' S Z _ _ W hi y => by
    obtain ⟨rfl, c, hc, rfl⟩ := y
    exact ⟨.str ⟨#[c]⟩, by simp [signs, hc], Fr.refl _ _, W, .str _⟩
  keep := fun _ _ _ _ _ _ => trivial
def diStr (te : RE) : RI := fun G S R => te G S fun d S1 => ∃ z, d = .str z ∧ R (signs z) (fun _ => True) S1
theorem di_str (he : JE X B e te) : JI X B tg e (diStr te) := PI.mono (pi_str he) fun σ H Q ⟨G, S, R, A, q, k⟩ => by
  refine ⟨G, S, _, A, q, fun v H1 ⟨d, S1, ⟨z, ed, q1⟩, f1, A1, h1⟩ => ?_⟩
  subst ed
  cases h1
  exact ⟨z, rfl, k _ _ _ _ H1 S1 q1 f1 A1 its_str trivial⟩
end
/-! ### comprehensions -/
def wipeD (G : DG) : List Nat → DG
  | [] => G
  | v :: vs => (wipeD G vs).set v none
theorem wipeD_env {K : PySem.W.Frag} {H : Hp} {S : Own} {G : DG} {σ : St} (r : REnv K H S G σ) : ∀ vs : List Nat, REnv K H S (wipeD G vs) (wipe σ vs)
  | [] => r
  | v :: vs => by
    have ih := wipeD_env r vs
    refine ⟨by unfold wipeD wipe; rw [List.length_set, List.length_set, ih.1], fun i d e => ?_⟩
    unfold wipeD at e
    unfold wipe
    by_cases hi : v = i
    · subst hi
      by_cases hv : v < (wipeD G vs).length
      · rw [List.getElem?_set_self hv] at e; cases e
      · rw [List.getElem?_eq_none (by simpa using hv)] at e; cases e
    · rw [List.getElem?_set_ne hi] at e ⊢
      exact ih.2 i d e
def lcRun (g : RG) (tt : RT) (te : RE) (Pd : Own → Prop) (Gw : DG) (R : List D → Own → Prop) : List D → List D → Own → Prop
  | [], acc, S => Pd S ∧ R acc S
  | x :: r, acc, S => Pd S ∧ g x Gw S fun G1 S1 => tt G1 S1 fun b S2 => if b = true then te G1 S2 fun d S3 => acc.length < sizeLine ∧ lcRun g tt te Pd Gw R r (acc ++ [d]) S3 else lcRun g tt te Pd Gw R r acc S2
def dLc (ti : RI) (g : RG) (tt : RT) (te : RE) (vs : List Nat) : RE := fun G S R => ti G S fun items Pd S1 => lcRun g tt te Pd (wipeD G vs) (fun acc S2 => R (.lst acc) S2) items [] S1
/-- .. its list in flight -/
def dLcO (ti : RI) (g : RG) (tt : RT) (te : RE) (vs : List Nat) : RE := fun G S R => ti G S fun items Pd S1 => lcRun g tt te Pd (wipeD G vs) (fun acc S2 => ∀ p, S2 p = none → R (.ref p) (S2.put p (.lst acc))) items [] S1
theorem over_putZ {S Z : Own} {a : Addr} {o : SO} (h : S a = none) : over S (Z.put a o) = (over S Z).put a o := by
  funext b
  by_cases e : b = a
  · subst e; rw [over_at h, Own.put_same, Own.put_same]
  · rw [Own.put_ne e]
    unfold over
    rw [Own.put_ne e]
/-- a hidden list at the place of a new one -/
theorem Dis.putZ {S Z : Own} {a : Addr} {o : SO} (d : Dis S Z) (h : S a = none) : Dis S (Z.put a o) := fun b u e => by
  have ne : b ≠ a := Own.ne_of e h
  rw [Own.put_ne ne]
  exact d b u e
theorem Dis.hid {S Z : Own} {a : Addr} {o : SO} (d : Dis S (Z.put a o)) : S a = none := by
  cases e : S a with
  | none => rfl
  | some u =>
    have := d a u e
    rw [Own.put_same] at this
    cases this
theorem wipe_wipe (σ : St) : ∀ vs : List Nat, wipe (wipe σ vs) vs = wipe σ vs
  | [] => rfl
  | v :: vs => by
    show (wipe ((wipe σ vs).set v none) vs).set v none = (wipe σ vs).set v none
    rw [wipe_set, wipe_wipe σ vs]
    split
    · rfl
    · rw [set_set_same]
def liftTs (K : PySem.W.Frag) (t : RT) : TT := fun σ H Q => ∃ B, liftT K B t σ H Q
def liftEs (K : PySem.W.Frag) (t : RE) : TE := fun σ H Q => ∃ B, liftE K B t σ H Q
def liftGu (K : PySem.W.Frag) (vs : List Nat) (g : RG) : TG := fun v σ H Q => ∃ B, liftG K B vs g v σ H Q
abbrev JTs (X : Cx) (B : Bs) (ifs : List Expr) (t : RT) : Prop := PTs X ifs (liftT X.K B t)
def dYes : RT := fun _ S R => R true S
section
variable {X : Cx} {B : Bs}
theorem PTs.mono {ifs : List Expr} {t t' : TT} (h : PTs X ifs t) (w : ∀ σ H Q, t' σ H Q → t σ H Q) : PTs X ifs t' := ⟨fun pins s σ H Q I q => h.run pins s σ H Q I (w σ H Q q)⟩
theorem dts_nil : JTs X B [] dYes := PTs.mono pts_nil fun σ H Q ⟨G, S, R, A, q, k⟩ => k true H ⟨S, q, Fr.refl _ _, A⟩
theorem dts_one {c : Expr} {t : RT} (h : JT X B c t) : JTs X B [c] t := pts_one h
end
/-- what a comprehension's loop keeps: the list at L grows, hidden -/
structure LcAt (K : PySem.W.Frag) (B : Bs) (H0 : Hp) (S0 : Own) (L : Addr) (acc : List D) (Gd : Hp → Own → Prop) (H : Hp) (S : Own) (G : DG) (σ : St) : Prop where
  own : Owns K H (over S (B.z.put L (.lst acc)))
  dis : Dis S (B.z.put L (.lst acc))
  env : REnv K H (over S (B.z.put L (.lst acc))) G σ
  fr : Fr H0 (ov B S0) H (over S (B.z.put L (.lst acc)))
  gd : Gd H (over S (B.z.put L (.lst acc)))
theorem dis_out {S Z : Own} {L : Addr} {o : SO} (d : Dis S (Z.put L o)) (hL : Z L = none) : Dis S Z := fun b u e => by
  have h := d b u e
  by_cases z : b = L
  · subst z; exact hL
  · rw [Own.put_ne z] at h; exact h
theorem drop_hid {S Z : Own} {L : Addr} {o : SO} (hS : S L = none) (hL : Z L = none) : ∀ x, over S Z x = none ∨ over S Z x = over S (Z.put L o) x := fun x => by
  by_cases z : x = L
  · subst z; exact .inl (by rw [over_at hS]; exact hL)
  · right
    unfold over
    rw [Own.put_ne z]
section
variable {X : Cx} {B : Bs} {elt tg iter : Expr} {ifs : List Expr} {scope : Scope} {own : List (Str × Nat)} {pos spos py : Pos} {ti : RI} {g : RG} {tt : RT} {te : RE}
theorem lc_lift {K : PySem.W.Frag} {vs : List Nat} {σ : St} {H : Hp} {G : DG} {S : Own} {R : List D → Own → Prop} {Q : VK} (A : At K B H S G σ)
    (q : ti G S fun items Pd S1 => lcRun g tt te Pd (wipeD G vs) R items [] S1)
    (k : ∀ L xs acc H' S', R acc S' → Fr H (ov B S) H' (ov B S') → At K B H' S' G σ → H' L = some (.lst xs) → (ov B S') L = none → Reps K H' (ov B S') xs acc → S' L = none → At K B H' (S'.put L (.lst acc)) G σ → Fr H (ov B S) H' (ov B (S'.put L (.lst acc))) → Q (.ref L) H') :
    tLc (liftI K B ti) (liftGu K vs g) (liftTs K tt) (liftEs K te) vs σ H Q := by
  refine ⟨G, S, _, A, q, fun J items Pd Gd H1 S1 q1 f1 A1 T g1 => ?_⟩
  intro L hL
  have hz : B.z L = none := (A1.free hL).2
  have hs1 : S1 L = none := (A1.free hL).1
  have e1 : over S1 (B.z.put L (.lst [])) = (ov B S1).put L (.lst []) := over_putZ hs1
  have start : LcAt K B H1 S1 L [] Gd (upd H1 L (.lst [])) S1 G σ := by
    refine ⟨by rw [e1]; exact A1.own.laidO hL ⟨[], upd_same, .nil⟩, A1.dis.putZ hs1, ?_, by rw [e1]; exact fr_laidO hL, ?_⟩
    · rw [e1]; exact A1.env.fr (fr_laidO hL)
    · rw [e1]; exact T.keep _ _ _ _ g1 (fr_laidO hL)
  refine ⟨fun i m H2 => m = items.length - i ∧ i ≤ items.length ∧ ∃ S2 acc, LcAt K B H1 S1 L acc Gd H2 S2 G σ ∧ lcRun g tt te Pd (wipeD G vs) R (items.drop i) acc S2, ⟨items.length, by simp, Nat.zero_le _, S1, [], start, q1⟩, ?_⟩
  rintro i m H2 ⟨rfl, hi, S2, acc, A2, q2⟩
  have hs2 : S2 L = none := A2.dis.hid
  obtain ⟨xs, hx, hr⟩ := A2.own L (.lst acc) (by rw [over_at hs2]; exact Own.put_same)
  by_cases hlt : i < items.length
  · rw [List.drop_eq_getElem_cons hlt] at q2
    obtain ⟨pd, q2⟩ := q2
    refine .inr ⟨T.go i H2 S2 _ A2.gd pd A2.own hlt, fun H3 => ∃ S3 acc', LcAt K B H1 S1 L acc' Gd H3 S3 G σ ∧ lcRun g tt te Pd (wipeD G vs) R (items.drop (i + 1)) acc' S3,
      fun H3 h3 => ⟨items.length - (i + 1), by omega, rfl, hlt, h3⟩, fun x H3 y => ?_⟩
    obtain ⟨d, ed, f3, W3, h3⟩ := T.yld i x H2 H3 S2 _ A2.gd pd A2.own hlt y
    have ed' : d = items[i] := by
      rw [List.getElem?_eq_getElem hlt] at ed
      exact (Option.some.inj ed).symm
    subst ed'
    -- the block's base: here and now
    refine ⟨⟨H3, S2, B.z.put L (.lst acc)⟩, wipeD G vs, S2, _, _, ⟨W3, wipeD_env (A2.env.fr f3) vs, Fr.refl _ _, A2.dis⟩, h3, q2, fun G4 S4 σ4 H4 q4 f4 A4 w4 => ?_⟩
    refine ⟨by rw [w4]; exact wipe_wipe σ vs, ⟨H3, S2, B.z.put L (.lst acc)⟩, G4, S4, _, A4, q4, fun b H5 ⟨S5, q5, f5, A5⟩ => ?_⟩
    have f345 := f3.trans (f4.trans f5)
    cases b with
    | false => exact ⟨S5, acc, ⟨A5.own, A5.dis, A2.env.fr f345, A2.fr.trans f345, T.keep _ _ _ _ A2.gd f345⟩, q5⟩
    | true =>
      refine ⟨⟨H3, S2, B.z.put L (.lst acc)⟩, G4, S5, _, A5, q5, fun yv H6 ⟨d, S6, ⟨hacc, q6⟩, f6, A6, h6⟩ => ?_⟩
      have f3456 := f345.trans f6
      have hs6 : S6 L = none := A6.dis.hid
      have o6 : (over S6 (B.z.put L (.lst acc))) L = some (.lst acc) := by rw [over_at hs6]; exact Own.put_same
      obtain ⟨xs6, hx6, hr6⟩ := A6.own L (.lst acc) o6
      have e6 : over S6 (B.z.put L (.lst (acc ++ [d]))) = (over S6 (B.z.put L (.lst acc))).put L (.lst (acc ++ [d])) := by
        rw [over_putZ hs6, over_putZ hs6, Own.put_put]
      have fw : Fr H6 (over S6 (B.z.put L (.lst acc))) (upd H6 L (.lst (xs6 ++ [yv]))) (over S6 (B.z.put L (.lst (acc ++ [d])))) := by rw [e6]; exact fr_write o6
      refine ⟨xs6, hx6, by rw [hr6.length]; exact hacc, S6, acc ++ [d], ⟨?_, ?_, A2.env.fr (f3456.trans fw), A2.fr.trans (f3456.trans fw), T.keep _ _ _ _ A2.gd (f3456.trans fw)⟩, q6⟩
      · rw [e6]
        exact A6.own.write o6 ⟨_, upd_same, (hr6.append (.cons h6 .nil)).fr (by rw [← e6]; exact fw)⟩
      · exact fun b u e => by
          have ne : b ≠ L := Own.ne_of e hs6
          have h7 : (B.z.put L (.lst acc)) b = none := A6.dis b u e
          rw [Own.put_ne ne] at h7 ⊢
          exact h7
  · have e : i = items.length := by omega
    subst e
    rw [List.drop_length] at q2
    refine .inl ⟨T.stop _ H2 S2 _ A2.gd q2.1 A2.own (Nat.le_refl _), ?_⟩
    have dr : Fr H2 (over S2 (B.z.put L (.lst acc))) H2 (ov B S2) := fr_drop fun x hx => by
      rcases drop_hid (o := .lst acc) hs2 hz x with z | z
      · exact z
      · exact z.trans hx
    have fAll : Fr H1 (ov B S1) H2 (ov B S2) := A2.fr.trans dr
    have W2 : Owns K H2 (ov B S2) := A2.own.drop (drop_hid hs2 hz)
    have eO : over S2 (B.z.put L (.lst acc)) = ov B (S2.put L (.lst acc)) := by rw [over_putZ hs2]; exact over_put.symm
    have fO := A2.fr
    have WO := A2.own
    have EO := A2.env
    rw [eO] at fO WO EO
    exact k L xs acc H2 S2 q2.2 (f1.trans fAll) ⟨W2, A2.env.fr dr, A1.fr.trans fAll, dis_out A2.dis hz⟩ hx ((over_at hs2).trans hz) (hr.fr dr) hs2
      ⟨WO, EO, A1.fr.trans fO, (dis_out A2.dis hz).put hz⟩ (f1.trans fO)
theorem lc_fin {K : PySem.W.Frag} {G : DG} {σ : St} {H : Hp} {S : Own} {R : DVK} {L : Addr} {xs : List V} {acc : List D} {H' : Hp} {S' : Own} (f : Fr H (ov B S) H' (ov B S')) (A : At K B H' S' G σ) (hx : H' L = some (.lst xs)) (hn : (ov B S') L = none) (r : Reps K H' (ov B S') xs acc) (q : R (.lst acc) S') : QL K B G σ H S R (.ref L) H' :=
  ⟨.lst acc, S', q, f, A, .lst ⟨.inl hx, hn⟩ r⟩
theorem de_lc (hc : X.calm = true) (hN : X.N.Nodup) (hi : JI X B tg iter ti) (ok : BlkOk X.N X.env.scope scope own)
    (hg : ∀ (B' : Bs) (s : Shared) (H : Hp) (C : Addr) (cl : List (Str × Addr)) (fp : List Addr), JG (X.blk s H scope (compEnvC scope cl C X.env) fp) B' (own.map (·.2)) tg g) (ht : ∀ (B' : Bs) (s : Shared) (H : Hp) (C : Addr) (cl : List (Str × Addr)) (fp : List Addr), JTs (X.blk s H scope (compEnvC scope cl C X.env) fp) B' ifs tt)
    (he : ∀ (B' : Bs) (s : Shared) (H : Hp) (C : Addr) (cl : List (Str × Addr)) (fp : List Addr), JE (X.blk s H scope (compEnvC scope cl C X.env) fp) B' elt te) (hs : ∀ x, foldedSetIterable iter X.env x = pure x) :
    JE X B (.ListComp elt [⟨tg, iter, ifs, 0⟩] scope pos) (dLc ti g tt te (own.map (·.2))) :=
  PE.mono (pe_lc (wi := liftI X.K B ti) (g := liftGu X.K (own.map (·.2)) g) (tt := liftTs X.K tt) (te := liftEs X.K te) hc hN hi ok
    (fun s H C cl fp => ⟨fun pins s' σ H' v u Q I r ⟨B', q⟩ => (hg B' s H C cl fp).run pins s' σ H' v u Q I r q⟩)
    (fun s H C cl fp => ⟨fun pins s' σ H' Q I ⟨B', q⟩ => PTs.run (ht B' s H C cl fp) pins s' σ H' Q I q⟩)
    (fun s H C cl fp => ⟨fun pins s' σ H' Q I ⟨B', q⟩ => PE.run (he B' s H C cl fp) pins s' σ H' Q I q⟩) hs)
    fun σ H Q ⟨G, S, R, A, q, k⟩ => lc_lift A q fun L xs acc H' S' q f A' hx hn r _ _ _ => k _ _ (lc_fin f A' hx hn r q)
theorem de_lcO (hc : X.calm = true) (hN : X.N.Nodup) (hi : JI X B tg iter ti) (ok : BlkOk X.N X.env.scope scope own)
    (hg : ∀ (B' : Bs) (s : Shared) (H : Hp) (C : Addr) (cl : List (Str × Addr)) (fp : List Addr), JG (X.blk s H scope (compEnvC scope cl C X.env) fp) B' (own.map (·.2)) tg g) (ht : ∀ (B' : Bs) (s : Shared) (H : Hp) (C : Addr) (cl : List (Str × Addr)) (fp : List Addr), JTs (X.blk s H scope (compEnvC scope cl C X.env) fp) B' ifs tt)
    (he : ∀ (B' : Bs) (s : Shared) (H : Hp) (C : Addr) (cl : List (Str × Addr)) (fp : List Addr), JE (X.blk s H scope (compEnvC scope cl C X.env) fp) B' elt te) (hs : ∀ x, foldedSetIterable iter X.env x = pure x) :
    JE X B (.ListComp elt [⟨tg, iter, ifs, 0⟩] scope pos) (dLcO ti g tt te (own.map (·.2))) :=
  PE.mono (pe_lc (wi := liftI X.K B ti) (g := liftGu X.K (own.map (·.2)) g) (tt := liftTs X.K tt) (te := liftEs X.K te) hc hN hi ok
    (fun s H C cl fp => ⟨fun pins s' σ H' v u Q I r ⟨B', q⟩ => (hg B' s H C cl fp).run pins s' σ H' v u Q I r q⟩)
    (fun s H C cl fp => ⟨fun pins s' σ H' Q I ⟨B', q⟩ => PTs.run (ht B' s H C cl fp) pins s' σ H' Q I q⟩)
    (fun s H C cl fp => ⟨fun pins s' σ H' Q I ⟨B', q⟩ => PE.run (he B' s H C cl fp) pins s' σ H' Q I q⟩) hs)
    fun σ H Q ⟨G, S, R, A, q, k⟩ => lc_lift A q fun L xs acc H' S' q f A' hx hn r hs2 AO fO => k _ _ ⟨.ref L, S'.put L (.lst acc), q L hs2, fO, AO, .ref L⟩
theorem ds_setLc {i : Nat} {y : Str} (hc : X.calm = true) (hN : X.N.Nodup) (hy : X.N[i]? = some y) (hyl : X.env.scope.names.lookup y = some .local)
    (hsw : swapsWith (.ListComp elt [⟨tg, iter, ifs, 0⟩] scope pos) (some (.Name y py)) spos.line X.env = pure true) (hi : JI X B tg iter ti) (ok : BlkOk X.N X.env.scope scope own)
    (hg : ∀ (B' : Bs) (s : Shared) (H : Hp) (C : Addr) (cl : List (Str × Addr)) (fp : List Addr), JG (X.blk s H scope (compEnvC scope cl C X.env) fp) B' (own.map (·.2)) tg g) (ht : ∀ (B' : Bs) (s : Shared) (H : Hp) (C : Addr) (cl : List (Str × Addr)) (fp : List Addr), JTs (X.blk s H scope (compEnvC scope cl C X.env) fp) B' ifs tt)
    (he : ∀ (B' : Bs) (s : Shared) (H : Hp) (C : Addr) (cl : List (Str × Addr)) (fp : List Addr), JE (X.blk s H scope (compEnvC scope cl C X.env) fp) B' elt te) (hs : ∀ x, foldedSetIterable iter X.env x = pure x) :
    JS X B (.Assign [.Name y py] (.ListComp elt [⟨tg, iter, ifs, 0⟩] scope pos) spos) (dSet i (dLc ti g tt te (own.map (·.2)))) :=
  PS.mono (ps_setLc (wi := liftI X.K B ti) (g := liftGu X.K (own.map (·.2)) g) (tt := liftTs X.K tt) (te := liftEs X.K te) hc hN hy hyl hsw hi ok
    (fun s H C cl fp => ⟨fun pins s' σ H' v u Q I r ⟨B', q⟩ => (hg B' s H C cl fp).run pins s' σ H' v u Q I r q⟩)
    (fun s H C cl fp => ⟨fun pins s' σ H' Q I ⟨B', q⟩ => PTs.run (ht B' s H C cl fp) pins s' σ H' Q I q⟩)
    (fun s H C cl fp => ⟨fun pins s' σ H' Q I ⟨B', q⟩ => PE.run (he B' s H C cl fp) pins s' σ H' Q I q⟩) hs)
    fun D σ H ⟨G, S, DD, A, q, k⟩ => lc_lift (R := fun acc S2 => DD.nx (G.set i (some (.lst acc))) S2) A q fun L xs acc H' S' q f A' hx hn r _ _ _ =>
      k.nx _ S' _ H' q f ⟨A'.own, A'.env.set i (.lst ⟨.inl hx, hn⟩ r), A'.fr, A'.dis⟩
end
end DL
namespace DL
open PySem PySem.Spec PyProof.Rows L2
/-! ### a def that is called, by its name -/
structure Callee (P : Program) (w : World) (K : PySem.W.Frag) (mg : Str → Option Value) (base : Heap) (k : Nat) (x : Str) (ps : List Str) (sp : DSp) : Prop where
  ex : ∃ (f : Addr) (fd : FuncData), FnOk P w K mg base CX0 k f fd ps (liftSp K sp) ∧ mg x = some (.ref f) ∧ PySem.W.keepIn K (.ref f) = true ∧ Binds K fd ps []
section
variable {X : Cx} {B : Bs} {k : Nat} {ps : List Str} {sp : DSp} {x : Str} {p pos : Pos} {a b c e : Expr} {es : List Expr} {ta tb tc te : RE} {tas : RA}
theorem de_fn (C : Callee X.prog X.w X.K X.mg X.base k x ps sp) (hr : Room k X.A) (ha : JA X B (e :: es) tas) (hg : Gl X x := by rfl)
    (hdb : (x == ("__debug__" : Str)) = false := by decide) (he : starEach (e :: es) X.env = (false, eval e X.env) :: starEach es X.env := by rfl) (hpl : (backTo pos (starEach es X.env)).any (·.1) = false := by rfl) :
    JE X B (.Call (.Name x p) (e :: es) [] pos) (dCall sp [] tas) := by
  obtain ⟨f, fd, F, hm, hk, hb⟩ := C.ex
  exact de_call F hr hg hm hk hb ha hdb he hpl
/-! ### -x, chains -/
def rNegD (d : D) (S : Own) (R : DVK) : Prop := match d with
  | .int i => R (.int (-i)) S
  | _ => False
def d1 (r : D → Own → DVK → Prop) (ta : RE) : RE := fun G S R => ta G S fun d S1 => r d S1 R
theorem de_neg (ha : JE X B a ta) : JE X B (.UnaryOp .USub a pos) (d1 rNegD ta) := PE.mono (pe_un un_neg ha) fun σ H Q ⟨G, S, R, A, q, k⟩ => by
  refine ⟨G, S, _, A, q, fun v H1 ⟨d, S1, q1, f1, A1, h1⟩ => ?_⟩
  cases d with
  | int i => cases h1; exact ⟨i, rfl, k _ H1 ⟨_, S1, q1, f1, A1, .int _⟩⟩
  | _ => exact q1.elim
def dChain (r r' : R2D) (ta tb tc : RE) : RE := fun G S R => ta G S fun x S1 => tb G S1 fun y S2 => r x y S2 fun z S3 => ∃ k, z = .bl k ∧ (if k = true then tc G S3 fun w S4 => r' y w S4 R else R (.bl false) S3)
theorem de_chain {op op' : CmpOp} {r r' : R2D} (ho : OpD X (compareOp op) r) (ho' : OpD X (compareOp op') r') (ha : JE X B a ta) (hb : JE X B b tb) (hc : JE X B c tc)
    (hm : lastMarks [op, op'] [b, c] = false := by with_unfolding_all rfl) : JE X B (.Compare a [op, op'] [b, c] pos) (dChain r r' ta tb tc) := by
  refine JE.mk fun pins s σ H S G R I A q => ?_
  refine Compare_chain (thn (ha.run I A q) fun v s1 ⟨x, H1, I1, r1, d, S1, q1, f1, A1, h1⟩ => chain_link (thn (hb.run I1 A1 q1) fun u s2 ⟨y, H2, I2, r2, e, S2, q2, f2, A2, h2⟩ =>
    thn (ho B pins s2 σ H2 S2 G x y v u d e _ I2 A2 (h1.fr f2) h2 r1 r2 q2) fun d' s3 ⟨z, H3, I3, r3, dz, S3, ⟨k, ek, q3⟩, f3, A3, h3⟩ => ?_)) hm
  subst ek
  cases h3
  cases r3
  refine wpAny_truthy_bool ?_
  cases k with
  | false => exact ite_ff ⟨.bl false, H3, I3, rfl, .bl false, S3, q3, f1.trans (f2.trans f3), A3, .bl false⟩
  | true => exact ite_tt (chain_last (thn (hc.run I3 A3 q3) fun w' s4 ⟨z', H4, I4, r4, dw, S4, q4, f4, A4, h4⟩ => thn (ho' B pins s4 σ H4 S4 G y z' u w' e dw R I4 A4 (h2.fr (f3.trans f4)) h4 r2 r4 q4) fun w2 s5 z => ep_imp z fun v H' z => QL.trans (f1.trans (f2.trans (f3.trans f4))) z))
theorem dt_chain {op op' : CmpOp} {r r' : R2D} (ho : OpD X (compareOp op) r) (ho' : OpD X (compareOp op') r') (ha : JE X B a ta) (hb : JE X B b tb) (hc : JE X B c tc)
    (hm : lastMarks [op, op'] [b, c] = false := by with_unfolding_all rfl) : JT X B (.Compare a [op, op'] [b, c] pos) (dTb (dChain r r' ta tb tc)) := by
  refine JT.mk fun pins s σ H S G R I A q => ?_
  refine isTrue_chain (thn (ha.run I A q) fun v s1 ⟨x, H1, I1, r1, d, S1, q1, f1, A1, h1⟩ => test_link (thn (hb.run I1 A1 q1) fun u s2 ⟨y, H2, I2, r2, e, S2, q2, f2, A2, h2⟩ =>
    thn (ho B pins s2 σ H2 S2 G x y v u d e _ I2 A2 (h1.fr f2) h2 r1 r2 q2) fun d' s3 ⟨z, H3, I3, r3, dz, S3, ⟨k, ek, q3⟩, f3, A3, h3⟩ => ?_)) hm
  subst ek
  cases h3
  cases r3
  refine wpAny_truthy_bool ?_
  cases k with
  | false =>
    obtain ⟨k', e', q'⟩ := q3
    cases e'
    exact ite_ff ⟨H3, I3, S3, q', f1.trans (f2.trans f3), A3⟩
  | true =>
    refine ite_tt (test_last (thn (hc.run I3 A3 q3) fun w' s4 ⟨z', H4, I4, r4, dw, S4, q4, f4, A4, h4⟩ => thn (ho' B pins s4 σ H4 S4 G y z' u w' e dw _ I4 A4 (h2.fr (f3.trans f4)) h4 r2 r4 q4) fun w2 s5 ⟨z2, H5, I5, r5, d5, S5, ⟨k2, e2, q5⟩, f5, A5, h5⟩ => ?_))
    subst e2
    cases h5
    cases r5
    exact wpAny_truthy_bool ⟨H5, I5, S5, q5, f1.trans (f2.trans (f3.trans (f4.trans f5))), A5⟩
/-! ### {} in flight; append; get -/
def dDctO : RE := fun _ S R => ∀ p, S p = none → R (.ref p) (S.put p (.dct []))
theorem de_dctO : JE X B (.Dict [] [] pos) dDctO := PE.mono pe_dnewK fun σ H Q ⟨G, S, R, A, q, k⟩ p hp => k _ _ (QL.laidO A hp (q p (A.free hp).1) (.inl ⟨[], upd_same, .nil⟩))
def rAppD : RMt := fun d ds S R => ∃ p xs z, d = .ref p ∧ ds = [z] ∧ S p = some (.lst xs) ∧ xs.length < sizeLine ∧ R .non (S.put p (.lst (xs ++ [z])))
theorem ql_write {G : DG} {σ : St} {H : Hp} {S : Own} {R : DVK} {p : Addr} {so so' : SO} {o : HO} {v : V} {d : D} (A : At X.K B H S G σ) (hs : S p = some so) (r : R d (S.put p so')) (new : SoAt X.K (upd H p o) ((ov B S).put p so') p so') (h : Rep X.K (upd H p o) ((ov B S).put p so') v d) : QL X.K B G σ H S R v (upd H p o) := by
  have e : ov B (S.put p so') = (ov B S).put p so' := over_put
  have f : Fr H (ov B S) (upd H p o) (ov B (S.put p so')) := by rw [e]; exact fr_write (over_some hs)
  exact ⟨d, S.put p so', r, f, A.go f (by rw [e]; exact A.own.write (over_some hs) new) (A.dis.put (A.dis _ _ hs)), by rw [e]; exact h⟩
theorem md_append : MtD X "list.append" rAppD := MtD.of mt_append fun B σ H S G x xs d ds R A hd hx q => by
  obtain ⟨p, ys, z, rfl, rfl, hs, hl, q⟩ := q
  cases hd
  obtain ⟨y, rfl, hy⟩ := reps1 hx
  obtain ⟨vs, hv, rr⟩ := A.own p _ (over_some hs)
  exact ⟨p, vs, y, rfl, rfl, hv, by rw [rr.length]; exact hl, ql_write A hs q ⟨_, upd_same, (rr.append (.cons hy .nil)).fr (fr_write (over_some hs))⟩ .non⟩
def rGet2 : RMt := fun d ds S R => ∃ es k z, dicOf S d = some es ∧ ds = [k, z] ∧ keyB k = true ∧ kindD es k = true ∧ R ((lookD es k).getD z) S
def rGet1 : RMt := fun d ds S R => ∃ es k, dicOf S d = some es ∧ ds = [k] ∧ keyB k = true ∧ kindD es k = true ∧ R ((lookD es k).getD .non) S
theorem optGetD {K : PySem.W.Frag} {H : Hp} {S : Own} {o : Option V} {u : Option D} {v : V} {d : D} (h : OptRep K H S o u) (r : Rep K H S v d) : Rep K H S (o.getD v) (u.getD d) := by
  cases o <;> cases u <;> first | exact r | exact h | exact h.elim
theorem md_get2 (hu : X.A.units + 1 < cLine) : MtD X "dict.get" rGet2 := by
  intro B pins s σ H S G x xs v us d ds R I A hd hx rv rx q
  obtain ⟨es, k, z, hdc, rfl, hk, hki, q⟩ := q
  obtain ⟨p, rfl, h⟩ := dicOf_at A.own hd hdc
  obtain ⟨y, w, rfl, hy, hw⟩ := reps2 hx
  obtain ⟨u, r, rfl, ry, rw'⟩ := vals2 rx
  cases rv
  rcases h.get hk hki hy with ⟨o, g, hr⟩ | ⟨rfl, ⟨j, rfl, hr⟩ | ⟨b, j, rfl, hb, hr⟩⟩
  · exact d_get2 hu I g ry rw' fun w' s' I' r' => ⟨_, H, I', r', QL.here A q (optGetD hr hw)⟩
  · obtain ⟨hdd, dd⟩ := empty_K I hr
    exact call_meetsIn PySem.F.slot_dict_get dd.typeIs PySem.F.entry_dict_get (PySem.F.args_dict_get_3 _ _ _) (meets_dict_get_default (mixKind X.prog X.w) p (kV_is ry) hdd r) ⟨_, dd.mapOf, ⟨w, H, I.tok _, rw', QL.here A q hw⟩⟩
  · obtain ⟨hdd, dd⟩ := empty_T I hr
    cases ry
    exact call_meetsIn PySem.F.slot_dict_get (isD_at I (.inl ⟨_, hr⟩)).1 PySem.F.entry_dict_get (PySem.F.args_dict_get_3 _ _ _) (meetsH_dict_get_default (tupleKind (mixKind X.prog X.w)) p b hdd r) ⟨tupleKind_room_in1 hu, j, [], key_of I.hok hb, dd, ⟨w, H, I.tok _, rw', QL.here A q hw⟩⟩
theorem md_get1 (hu : X.A.units + 1 < cLine) : MtD X "dict.get" rGet1 := by
  intro B pins s σ H S G x xs v us d ds R I A hd hx rv rx q
  obtain ⟨es, k, hdc, rfl, hk, hki, q⟩ := q
  obtain ⟨p, rfl, h⟩ := dicOf_at A.own hd hdc
  obtain ⟨y, rfl, hy⟩ := reps1 hx
  obtain ⟨u, rfl, ry⟩ := vals1 rx
  cases rv
  rcases h.get hk hki hy with ⟨o, g, hr⟩ | ⟨rfl, ⟨j, rfl, hr⟩ | ⟨b, j, rfl, hb, hr⟩⟩
  · exact d_get1 hu I g ry fun w' s' I' r' => ⟨_, H, I', r', QL.here A q (optGetD hr .non)⟩
  · obtain ⟨hdd, dd⟩ := empty_K I hr
    exact call_meetsIn PySem.F.slot_dict_get dd.typeIs PySem.F.entry_dict_get (PySem.F.args_dict_get_2 _ _) (meets_dict_get (mixKind X.prog X.w) p (kV_is ry) hdd) ⟨_, dd.mapOf, ⟨.non, H, I.tok _, rfl, QL.here A q .non⟩⟩
  · obtain ⟨hdd, dd⟩ := empty_T I hr
    cases ry
    exact call_meetsIn PySem.F.slot_dict_get (isD_at I (.inl ⟨_, hr⟩)).1 PySem.F.entry_dict_get (PySem.F.args_dict_get_2 _ _) (meetsH_dict_get (tupleKind (mixKind X.prog X.w)) p b hdd) ⟨tupleKind_room_in1 hu, j, [], key_of I.hok hb, dd, ⟨.non, H, I.tok _, rfl, QL.here A q .non⟩⟩
/-- sep.join -/
def strsOf : List D → Option (List Str)
  | [] => some []
  | .str x :: r => (strsOf r).map (x :: ·)
  | _ :: _ => none
theorem strsOf_eq : ∀ {ds : List D} {ys : List Str}, strsOf ds = some ys → ds = ys.map D.str
  | [], ys, h => by cases h; rfl
  | .str x :: r, ys, h => by
    unfold strsOf at h
    cases e : strsOf r with
    | none => rw [e] at h; cases h
    | some zs => rw [e] at h; cases h; rw [strsOf_eq e]; rfl
  | .non :: _, _, h => nomatch h
  | .bl _ :: _, _, h => nomatch h
  | .int _ :: _, _, h => nomatch h
  | .ty _ :: _, _, h => nomatch h
  | .tup _ :: _, _, h => nomatch h
  | .lst _ :: _, _, h => nomatch h
  | .dct _ :: _, _, h => nomatch h
  | .ref _ :: _, _, h => nomatch h
def rJoin : RMt := fun d ds S R => ∃ a e xs ys, d = .str a ∧ ds = [e] ∧ seqD S e = some xs ∧ xs = ys.map D.str ∧ (ys.map (·.length)).sum + ys.length * a.length ≤ 16777216 ∧ R (.str (Txt.join a ys)) S
theorem md_join : MtD X "str.join" rJoin := MtD.of mt_join fun B σ H S G x xs d ds R A hd hx q => by
  obtain ⟨a, e, zs, ys, rfl, rfl, he, rfl, hz, q⟩ := q
  cases hd
  obtain ⟨y, rfl, hy⟩ := reps1 hx
  obtain ⟨p, vs, rfl, hp, r⟩ := seqD_at A.own hy he
  rw [reps_strs r] at hp
  exact ⟨a, p, ys, rfl, rfl, hp, hz, QL.here A q (.str _)⟩
end
end DL
namespace DL
open PySem PySem.Spec PyProof.Rows L2
open PySem.SeqAt (EqIn)
section
open PySem.SeqAt
open AutoSeq1 (wpAny_loadPart')
open MeetsSeq MeetsSeq2 MeetsSeq3
variable {P : Program} {w : World}
/-! ### != of two lists, two tuples, within one program: what their items answer -/
abbrev LoL (s : Shared) (p : Addr) (us : Array Value) (n : Nat) (d0 : Option Addr) (z : Array (Option Value)) : Prop := s.heap.get? p = some { cls := .type "list", dict := d0, data := .seq us n, slots := z }
abbrev TuL (s : Shared) (p : Addr) (us : Array Value) (n : Nat) (d0 : Option Addr) (z : Array (Option Value)) : Prop := s.heap.get? p = some { cls := .type "tuple", dict := d0, data := .seq us n, slots := z }
theorem nl_loop (p q : Addr) (us ws : Array Value) (n m : Nat) (d0 d1 : Option Addr) (z0 z1 : Array (Option Value)) (sz : us.size = ws.size) (f : Nat → Bool) (k : Nat) :
    ∀ i : Nat, us.size - i = k → MeetsIn P w (Builtin.«list.__eq__.loop» ⟨[.ref p, .ref q, rawInt i, rawInt 3], []⟩)
      (fun A R s => LoL s p us n d0 z0 ∧ LoL s q ws m d1 z1 ∧ (∀ j (j1 : j < us.size) (j2 : j < ws.size), EqIn P w A.in1 s us[j] ws[j] (f j)) ∧ R (.ok (.ret (.bool (!((List.range us.size).drop i).all f)))) s) := by
  induction k with
  | zero =>
    rintro i ki A R ⟨hp, g, d, tk, os⟩ ⟨pl, ql, pe, r⟩
    wp_walk using wpAny_loadPart' pl, wpAny_loadPart' ql
    have n1 : us[((i : Nat) : Int).toNat]? = none := by simp; omega
    have n2 : ws[((i : Nat) : Int).toNat]? = none := by simp; omega
    have dr : (List.range us.size).drop i = [] := by simp; omega
    rw [dr] at r
    rw [n1, n2]
    wp_walk using wpAny_loadPart' pl, wpAny_loadPart' ql
    show R (.ok (.ret (.bool (us.size != ws.size)))) _
    rw [sz]
    simpa using r
  | succ k ih =>
    rintro i ki A R ⟨hp, g, d, tk, os⟩ ⟨pl, ql, pe, r⟩
    wp_walk using wpAny_loadPart' pl, wpAny_loadPart' ql
    have l1 : i < us.size := by omega
    have l2 : i < ws.size := by omega
    have n1 : us[((i : Nat) : Int).toNat]? = some us[i] := by simp [l1]
    have n2 : ws[((i : Nat) : Int).toNat]? = some ws[i] := by simp [l2]
    have dr : (List.range us.size).drop i = i :: (List.range us.size).drop (i + 1) := by simp [List.drop_eq_getElem_cons, l1]
    have up : ((i : Int) + 1) = ((i + 1 : Nat) : Int) := by push_cast; rfl
    rw [dr, List.all_cons] at r
    rw [n1, n2]
    refine wpAny_bind (pe i l1 l2 _ _ ?_)
    cases fi : f i with
    | true =>
      rw [fi] at r
      wp_walk
      rw [up]
      refine ⟨plainId_quiet plain_eq_loop _, codeAny_builtin entry_eq_loop ?_⟩
      rw [Around.under_plainId plain_eq_loop _]
      exact ih (i + 1) (by omega) A R _ ⟨pl, ql, pe, by simpa using r⟩
    | false =>
      rw [fi] at r
      wp_walk using wpAny_loadPart' pl, wpAny_loadPart' ql
      rw [n1, n2]
      wp_walk
      simpa using r
theorem nl_list (p q : Addr) (us ws : Array Value) (n m : Nat) (d0 d1 : Option Addr) (z0 z1 : Array (Option Value)) (sz : us.size = ws.size) (f : Nat → Bool) :
    MeetsIn P w (Builtin.«list.__ne__» ⟨[.ref p, .ref q], []⟩)
      (fun A R s => LoL s p us n d0 z0 ∧ LoL s q ws m d1 z1 ∧ (∀ j (j1 : j < us.size) (j2 : j < ws.size), EqIn P w A.in1 s us[j] ws[j] (f j)) ∧ R (.ok (.ret (.bool (!(List.range us.size).all f)))) s) := by
  rintro A R ⟨hp, g, d, tk, os⟩ ⟨pl, ql, pe, r⟩
  have sub := AutoSeq1.sub_list_list
  have nn : ¬ (us.size != ws.size) = true := by simp [sz]
  wp_walk using wpAny_loadPart' pl, wpAny_loadPart' ql
  refine ⟨plainId_quiet plain_eq_loop _, codeAny_builtin entry_eq_loop ?_⟩
  rw [Around.under_plainId plain_eq_loop _]
  exact nl_loop p q us ws n m d0 d1 z0 z1 sz f _ 0 rfl A R _ ⟨pl, ql, pe, by simpa using r⟩
theorem nl_tuple (p q : Addr) (us ws : Array Value) (n m : Nat) (d0 d1 : Option Addr) (z0 z1 : Array (Option Value)) (f : Nat → Bool) :
    MeetsIn P w (Builtin.«tuple.__ne__» ⟨[.ref p, .ref q], []⟩)
      (fun A R s => TuL s p us n d0 z0 ∧ TuL s q ws m d1 z1 ∧ (∀ j (j1 : j < us.size) (j2 : j < ws.size), EqIn P w A.in1 s us[j] ws[j] (f j)) ∧ R (.ok (.ret (.bool (!((List.range (min us.size ws.size)).all f && us.size == ws.size))))) s) := by
  refine MeetsIn.of_wp fun A R s z => ?_
  obtain ⟨hp, g, d, tk, os⟩ := s; obtain ⟨pl, ql, pe, r⟩ := z
  have sub := AutoSeq1.sub_tuple_tuple
  have zl : (us.toList.zip ws.toList).length = min us.size ws.size := by simp
  wp_walk using wpAny_loadPart' pl, wpAny_loadPart' ql, wpAny_forIn_list _ (fun rest b s' => b.1 = none ∧ s' = ⟨hp, g, d, tk, os⟩ ∧ ∃ i, rest = (us.toList.zip ws.toList).drop i ∧
    R (.ok (.ret (.bool (!(((List.range (min us.size ws.size)).drop i).all f && us.size == ws.size))))) ⟨hp, g, d, tk, os⟩) _
  case turn =>
    rintro ⟨y, x⟩ rest b s' ⟨eb, rfl, i, ez, rr⟩
    have lt : i < (us.toList.zip ws.toList).length := by
      rcases Nat.lt_or_ge i (us.toList.zip ws.toList).length with c | c
      · exact c
      · rw [List.drop_of_length_le c] at ez; cases ez
    have lm : i < min us.size ws.size := zl ▸ lt
    have l1 : i < us.size := Nat.lt_of_lt_of_le lm (Nat.min_le_left _ _)
    have l2 : i < ws.size := Nat.lt_of_lt_of_le lm (Nat.min_le_right _ _)
    rw [List.drop_eq_getElem_cons lt] at ez
    injection ez with eyx er
    have ey : y = us[i] := by have := congrArg Prod.fst eyx; simpa using this
    have ex : x = ws[i] := by have := congrArg Prod.snd eyx; simpa using this
    subst ey ex
    have dr : (List.range (min us.size ws.size)).drop i = i :: (List.range (min us.size ws.size)).drop (i + 1) := by simp [List.drop_eq_getElem_cons, lm]
    rw [dr, List.all_cons] at rr
    refine wpAny_bind (pe i l1 l2 _ _ ?_)
    cases fi : f i with
    | true =>
      rw [fi] at rr
      wp_walk
      exact ⟨rfl, rfl, i + 1, er, by simpa using rr⟩
    | false =>
      rw [fi] at rr
      wp_walk
      exact ⟨_, rfl, by simpa using rr⟩
  case fin =>
    rintro ⟨b1, b2⟩ s' ⟨eb, rfl, i, ez, rr⟩
    simp only at eb
    subst eb
    have ge : min us.size ws.size ≤ i := by
      rcases Nat.lt_or_ge i (us.toList.zip ws.toList).length with c | c
      · rw [List.drop_eq_getElem_cons c] at ez; cases ez
      · exact zl ▸ c
    rw [List.drop_of_length_le (by simpa using ge)] at rr
    wp_walk
    exact ⟨_, rfl, by simpa [Builtin.Tuple.tupleCompareSizes, bne] using rr⟩
  case h =>
    exact ⟨rfl, rfl, 0, rfl, by simpa using r⟩
variable {A : Around} {s : Shared} {E Q : Value → Shared → Prop} {p q : Addr} {us ws : Array Value} {f : Nat → Bool}
theorem ne_lists (hl : s.heap.IsList p us) (hq : s.heap.IsList q ws) (sz : us.size = ws.size) (hu : A.units < cLine) (pe : ∀ j (j1 : j < us.size) (j2 : j < ws.size), EqIn P w A.in1 s us[j] ws[j] (f j)) (r : Q (.bool (!(List.range us.size).all f)) s) :
    wpAny (model P w) A (compareOp .NotEq (.ref p) (.ref q)) Q E s := by
  obtain ⟨⟨c0, d0, x0, z0⟩, o0, k0, n, y0⟩ := id hl
  obtain ⟨⟨c1, d1, x1, z1⟩, o1, k1, m, y1⟩ := id hq
  simp only at k0 y0 k1 y1
  subst k0 y0 k1 y1
  refine wpAny_richCompare_same_room (T := "list") (op := .NotEq) ⟨_, o0, rfl⟩ ⟨_, o1, rfl⟩ F.slot_list_ne (call_meetsIn F.slot_list_ne ⟨_, o0, rfl⟩ F.entry_list_ne (F.args_list_ne_2 _ _) (nl_list p q us ws n m d0 d1 z0 z1 sz f) ⟨o0, o1, pe, ?_⟩) hu
  exact (show Value.bool (!(List.range us.size).all f) ≠ Value.notImplemented ∧ Q _ s from ⟨(fun x => nomatch x), r⟩)
theorem ne_tuples (hl : s.heap.IsTuple p us) (hq : s.heap.IsTuple q ws) (hu : A.units < cLine) (pe : ∀ j (j1 : j < us.size) (j2 : j < ws.size), EqIn P w A.in1 s us[j] ws[j] (f j)) (r : Q (.bool (!((List.range (min us.size ws.size)).all f && us.size == ws.size))) s) :
    wpAny (model P w) A (compareOp .NotEq (.ref p) (.ref q)) Q E s := by
  obtain ⟨⟨c0, d0, x0, z0⟩, o0, k0, n, y0⟩ := id hl
  obtain ⟨⟨c1, d1, x1, z1⟩, o1, k1, m, y1⟩ := id hq
  simp only at k0 y0 k1 y1
  subst k0 y0 k1 y1
  refine wpAny_richCompare_same_room (T := "tuple") (op := .NotEq) ⟨_, o0, rfl⟩ ⟨_, o1, rfl⟩ F.slot_tuple_ne (call_meetsIn F.slot_tuple_ne ⟨_, o0, rfl⟩ F.entry_tuple_ne (F.args_tuple_ne_2 _ _) (nl_tuple p q us ws n m d0 d1 z0 z1 f) ⟨o0, o1, pe, ?_⟩) hu
  exact (show Value.bool (!((List.range (min us.size ws.size)).all f && us.size == ws.size)) ≠ Value.notImplemented ∧ Q _ s from ⟨(fun x => nomatch x), r⟩)
theorem ne_lists_len (hl : s.heap.IsList p us) (hq : s.heap.IsList q ws) (sz : us.size ≠ ws.size) (hu : A.units < cLine) (r : Q (.bool true) s) : wpAny (model P w) A (compareOp .NotEq (.ref p) (.ref q)) Q E s :=
  RcNeAt.lists_lengths hl hq (by simpa [bne] using sz) hu P w E Q r
end
end DL
namespace DL
open PySem PySem.Spec PyProof.Rows L2
open PySem.SeqAt (EqIn)
open PySem.W (KeqHitsIn)
section
variable {P : Program} {w : World} {κ : Type} [DecidableEq κ] {kd : HeapKind P w κ} {A : Around} {E : Value → Shared → Prop} {s : Shared}
theorem at_none {xs : List (κ × Addr × Value)} {k : κ} (z : ∀ (j : Nat) (p : Addr × Value), xs[j]? ≠ some (k, p)) : valueAt (pairsH xs) k = none := by
  rw [valueAt_pairsH, atKey_none_of_get z]; rfl
theorem at_some {xs : List (κ × Addr × Value)} {k : κ} (hn : (xs.map (·.1)).Nodup) {j : Nat} {p : Addr × Value} (z : xs[j]? = some (k, p)) : valueAt (pairsH xs) k = some p.2 := by
  rw [valueAt_pairsH, atKey_of_get hn z]; rfl
/-- two dicts of tuple keys hold the same pairs -/
theorem keqT_same {nm : String} {a b : Addr} {xa xb : List (κ × Addr × Value)} {r : Bool} {Q : Bool → Shared → Prop} (na : (a == sysModules) = false) (nb : (b == sysModules) = false) (room : kd.room A)
    (da : s.heap.DictOfH kd a xa) (db : s.heap.DictOfH kd b xb) (hits : xa.length = xb.length → KeqHitsIn P w A s (pairsH xb) (pairsH xa) r) (q : Q (xa.length == xb.length && r) s) :
    wpAny (model P w) A (Builtin.Dict.samePairs nm a b) Q E s := by
  obtain ⟨oa, ea, pa, ga, _, ta, la, ia, ua⟩ := da
  obtain ⟨ob, eb, pb, gb, _, tb, lb, ib, ub⟩ := db
  have za : ea.size = xa.length := size_of_entries la
  have zb : eb.size = xb.length := size_of_entries lb
  rw [← za, ← zb] at q
  unfold Builtin.Dict.samePairs Builtin.Dict.showsAll
  rw [if_neg (by rw [na]; exact Bool.false_ne_true), if_neg (by rw [nb]; exact Bool.false_ne_true)]
  refine wpAny_bind (wpAny_pure (wpAny_bind (wpAny_pure ?_)))
  refine wpAny_bind (wpAny_dictEntries ga ta ?_)
  dsimp only
  refine wpAny_bind (wpAny_dictEntries gb tb ?_)
  by_cases sz : ea.size = eb.size
  case neg =>
    rw [if_pos (by simpa using sz)]
    rw [show (ea.size == eb.size) = false from by simpa using sz, Bool.false_and] at q
    exact wpAny_bind (wpAny_rule (wpAny_pure q))
  case pos =>
    have q2 : Q r s := by simpa [sz] using q
    have hits2 := hits (by rw [← za, ← zb]; exact sz)
    rw [if_neg (by rw [sz]; simp)]
    refine wpAny_bind (wpAny_dictEpoch ga ta ?_)
    refine wpAny_bind ?_
    rw [Std.Legacy.Range.forIn_eq_forIn_range']
    simp only [Std.Legacy.Range.size, Nat.sub_zero, Nat.add_sub_cancel, Nat.div_one]
    refine wpAny_forIn_list _ (fun l z s' => s' = s ∧ z = (none, ()) ∧ ∃ i, l = List.range' i (ea.size - i) ∧ i ≤ ea.size ∧ KeqHitsIn P w A s (pairsH xb) (pairsH (xa.drop i)) r) _ ?_ ?_ _ _ ⟨rfl, rfl, 0, by simp, Nat.zero_le _, hits2⟩
    · rintro x l z s' ⟨rfl, rfl, i, el, hi, pre⟩
      have lt : i < ea.size := by
        rcases Nat.lt_or_ge i ea.size with c | c
        · exact c
        · rw [Nat.sub_eq_zero_of_le c] at el; simp at el
      obtain ⟨rfl, el2⟩ : x = i ∧ l = List.range' (i + 1) (ea.size - (i + 1)) := by
        rw [show ea.size - i = (ea.size - (i + 1)) + 1 from by omega, List.range'_succ] at el
        injection el with e1 e2
        exact ⟨e1, e2⟩
      have ltx : x < xa.length := by rw [← za]; exact lt
      obtain ⟨k, p, v, exa⟩ : ∃ k p v, xa[x] = (k, p, v) := ⟨_, _, _, rfl⟩
      have en : ea[x]? = some (entryOfKey kd (k, p, v)) := by rw [entry_at la x, List.getElem?_eq_getElem ltx, exa]; rfl
      have isk : kd.is s'.heap k p := by have := ia xa[x] (List.getElem_mem ltx); rw [exa] at this; exact this
      have dx : xa.drop x = (k, p, v) :: xa.drop (x + 1) := by rw [← exa]; exact List.drop_eq_getElem_cons ltx
      rw [dx] at pre
      refine wpAny_bind (wpAny_dictEntries ga ta ?_)
      rw [en]
      show wpAny _ _ (holding [Value.ref p, v] _ >>= _) _ _ _
      refine wpAny_bind (wpAny_holding (wpAny_bind ?_))
      show wpAny _ _ (dictFind b (.ref p) (kd.hash k)) _ _ _
      refine wpAny_dictFind_heap room isk gb tb lb ib ub (fun miss => ?_) fun j y hj => ?_
      · rcases pre.inv with ⟨_, er⟩ | ⟨y, _, _, hy, _⟩
        · rw [er] at q2
          refine wpAny_pure ?_
          show wpAny _ _ (if (!false) = true then _ else _) _ _ _
          rw [if_pos (by decide)]
          exact wpAny_pure (wpAny_pure q2)
        · rw [at_none miss] at hy; exact nomatch hy
      · have ej : eb[j]? = some (entryOfKey kd (k, y)) := by rw [entry_at lb j, hj]; rfl
        refine wpAny_bind (wpAny_dictEntries gb tb ?_)
        rw [ej]
        rcases pre.inv with ⟨hn, _⟩ | ⟨y2, e, b', hy, he, hr, er⟩
        · rw [at_some ub hj] at hn; exact nomatch hn
        · have ey : y.2 = y2 := Option.some.inj ((at_some ub hj).symm.trans hy)
          rw [← ey] at he
          refine wpAny_holding (he _ _ ?_)
          cases e with
          | false =>
            rw [er, Bool.false_and] at q2
            show wpAny _ _ (if (!false) = true then _ else _) _ _ _
            rw [if_pos (by decide)]
            exact wpAny_pure (wpAny_pure q2)
          | true =>
            rw [Bool.true_and] at er
            rw [← er] at hr
            show wpAny _ _ (if (!true) = true then _ else _) _ _ _
            rw [if_neg (by decide)]
            refine wpAny_bind (wpAny_dictEpoch ga ta ?_)
            rw [if_neg (by simp)]
            exact wpAny_pure ⟨rfl, rfl, x + 1, el2, lt, hr⟩
    · rintro z s' ⟨rfl, rfl, i, el, hi, pre⟩
      have ein : i = ea.size := by
        rcases Nat.lt_or_ge i ea.size with c | c
        · rw [show ea.size - i = (ea.size - (i + 1)) + 1 from by omega, List.range'_succ] at el; exact nomatch el
        · exact Nat.le_antisymm hi c
      refine wpAny_pure ?_
      rw [ein, za, List.drop_length] at pre
      cases pre
      exact q2
theorem keqT_eq {a b : Addr} {xa xb : List (κ × Addr × Value)} {r : Bool} {Q : Value → Shared → Prop} (na : (a == sysModules) = false) (nb : (b == sysModules) = false) (room : kd.room A.in1)
    (da : s.heap.DictOfH kd a xa) (db : s.heap.DictOfH kd b xb) (hu : A.units < cLine) (hits : xa.length = xb.length → KeqHitsIn P w A.in1 s (pairsH xb) (pairsH xa) r) (q : Q (.bool (xa.length == xb.length && r)) s) :
    wpAny (model P w) A (compareOp .Eq (.ref a) (.ref b)) Q E s := by
  refine wpAny_richCompare_same_room (T := "dict") (op := .Eq) da.typeIs db.typeIs PySem.F.slot_dict_eq (wpAny_call_entry PySem.F.slot_dict_eq da.typeIs PySem.F.entry_dict_eq ?_ (PySem.F.args_dict_eq_2 _ _)) hu
  show wpAny _ _ (Builtin.Dict.dictSlotArgs "__eq__" _ >>= _) _ _ s
  refine wpAny_bind ?_
  unfold Builtin.Dict.dictSlotArgs
  refine wpAny_bind (wpAny_notOrdered_dict da.typeIs ?_)
  show wpAny _ _ (pure (Value.ref a, _)) _ _ s
  refine wpAny_pure (wpAny_bind (wpAny_isInstance (T := "dict") db.typeIs PySem.F.sub_dict_dict ?_))
  simp only [Bool.not_true, Bool.false_eq_true, if_false]
  refine wpAny_bind (wpAny_pure (wpAny_bind (wpAny_pure (wpAny_bind (keqT_same na nb room da db hits (wpAny_pure ⟨_, rfl, ?_, ?_⟩))))))
  · exact fun x => nomatch x
  · simpa using q
end
end DL
namespace DL
open PySem PySem.Spec PyProof.Rows L2
open PySem.SeqAt (EqIn EqAt)
open PySem.W (KeqHitsIn)
/-! ### data as it stands in a heap, in flight or not -/
mutual
inductive RR (H : Hp) : V → D → Prop
  | non : RR H .non .non
  | bl (b : Bool) : RR H (.bl b) (.bl b)
  | int (i : Int) : RR H (.int i) (.int i)
  | str (x : Str) : RR H (.str x) (.str x)
  | tup {a : Addr} {vs : List V} {ds : List D} : H a = some (.tup vs) → RRs H vs ds → RR H (.ref a) (.tup ds)
  | lst {a : Addr} {vs : List V} {ds : List D} : Rd H a (.lst vs) → RRs H vs ds → RR H (.ref a) (.lst ds)
  | dk {a : Addr} {kvs : List (Key × V)} {es : List (D × D)} : Rd H a (.dK kvs) → RRK H kvs es → RR H (.ref a) (.dct es)
  | dt {a : Addr} {kvs : List (List Key × V)} {es : List (D × D)} : Rd H a (.dT kvs) → RRT H kvs es → RR H (.ref a) (.dct es)
inductive RRs (H : Hp) : List V → List D → Prop
  | nil : RRs H [] []
  | cons {v : V} {d : D} {vs : List V} {ds : List D} : RR H v d → RRs H vs ds → RRs H (v :: vs) (d :: ds)
inductive RRK (H : Hp) : List (Key × V) → List (D × D) → Prop
  | nil : RRK H [] []
  | cons {k : Key} {v : V} {d : D} {kvs : List (Key × V)} {es : List (D × D)} : RR H v d → RRK H kvs es → RRK H ((k, v) :: kvs) ((keyD k, d) :: es)
inductive RRT (H : Hp) : List (List Key × V) → List (D × D) → Prop
  | nil : RRT H [] []
  | cons {k : List Key} {v : V} {d : D} {kvs : List (List Key × V)} {es : List (D × D)} : RR H v d → RRT H kvs es → RRT H ((k, v) :: kvs) ((.tup (k.map keyD), d) :: es)
end
theorem Rd.lst_det {H : Hp} {a : Addr} {x y : List V} (h : Rd H a (.lst x)) (g : Rd H a (.lst y)) : x = y := by
  rcases h with h | ⟨o, h⟩ <;> rcases g with g | ⟨p, g⟩ <;> rw [h] at g <;> cases g <;> rfl
theorem Rd.dK_det {H : Hp} {a : Addr} {x y : List (Key × V)} (h : Rd H a (.dK x)) (g : Rd H a (.dK y)) : x = y := by
  rcases h with h | ⟨o, h⟩ <;> rcases g with g | ⟨p, g⟩ <;> rw [h] at g <;> cases g <;> rfl
theorem Rd.dT_det {H : Hp} {a : Addr} {x y : List (List Key × V)} (h : Rd H a (.dT x)) (g : Rd H a (.dT y)) : x = y := by
  rcases h with h | ⟨o, h⟩ <;> rcases g with g | ⟨p, g⟩ <;> rw [h] at g <;> cases g <;> rfl
theorem Rd.no1 {H : Hp} {a : Addr} {x : List V} {y : List (Key × V)} (h : Rd H a (.lst x)) (g : Rd H a (.dK y)) : False := by
  rcases h with h | ⟨o, h⟩ <;> rcases g with g | ⟨p, g⟩ <;> rw [h] at g <;> cases g
theorem Rd.no2 {H : Hp} {a : Addr} {x : List V} {y : List (List Key × V)} (h : Rd H a (.lst x)) (g : Rd H a (.dT y)) : False := by
  rcases h with h | ⟨o, h⟩ <;> rcases g with g | ⟨p, g⟩ <;> rw [h] at g <;> cases g
theorem Rd.no3 {H : Hp} {a : Addr} {x : List (Key × V)} {y : List (List Key × V)} (h : Rd H a (.dK x)) (g : Rd H a (.dT y)) : False := by
  rcases h with h | ⟨o, h⟩ <;> rcases g with g | ⟨p, g⟩ <;> rw [h] at g <;> cases g
theorem Rd.not {H : Hp} {a : Addr} {x : List V} {u : HO} (h : Rd H a u) (g : H a = some (.tup x)) (n : u ≠ .tup x) : False := by
  rcases h with h | ⟨o, h⟩ <;> rw [h] at g <;> cases g
  exact n rfl
mutual
theorem RR.det {H : Hp} : ∀ {v : V} {d e : D}, RR H v d → RR H v e → d = e
  | _, _, _, .non, .non => rfl
  | _, _, _, .bl _, .bl _ => rfl
  | _, _, _, .int _, .int _ => rfl
  | _, _, _, .str _, .str _ => rfl
  | _, _, _, .tup h r, g => by
    cases g with
    | tup g s => rw [h] at g; cases g; rw [RRs.det r s]
    | lst g s => exact (Rd.not g h (fun z => nomatch z)).elim
    | dk g s => exact (Rd.not g h (fun z => nomatch z)).elim
    | dt g s => exact (Rd.not g h (fun z => nomatch z)).elim
  | _, _, _, .lst h r, g => by
    cases g with
    | tup g s => exact (Rd.not h g (fun z => nomatch z)).elim
    | lst g s => cases Rd.lst_det h g; rw [RRs.det r s]
    | dk g s => exact (Rd.no1 h g).elim
    | dt g s => exact (Rd.no2 h g).elim
  | _, _, _, .dk h r, g => by
    cases g with
    | tup g s => exact (Rd.not h g (fun z => nomatch z)).elim
    | lst g s => exact (Rd.no1 g h).elim
    | dk g s => cases Rd.dK_det h g; rw [RRK.det r s]
    | dt g s => exact (Rd.no3 h g).elim
  | _, _, _, .dt h r, g => by
    cases g with
    | tup g s => exact (Rd.not h g (fun z => nomatch z)).elim
    | lst g s => exact (Rd.no2 g h).elim
    | dk g s => exact (Rd.no3 g h).elim
    | dt g s => cases Rd.dT_det h g; rw [RRT.det r s]
theorem RRs.det {H : Hp} : ∀ {vs : List V} {ds es : List D}, RRs H vs ds → RRs H vs es → ds = es
  | _, _, _, .nil, .nil => rfl
  | _, _, _, .cons h r, .cons g s => by rw [RR.det h g, RRs.det r s]
theorem RRK.det {H : Hp} : ∀ {vs : List (Key × V)} {ds es : List (D × D)}, RRK H vs ds → RRK H vs es → ds = es
  | _, _, _, .nil, .nil => rfl
  | _, _, _, .cons h r, .cons g s => by rw [RR.det h g, RRK.det r s]
theorem RRT.det {H : Hp} : ∀ {vs : List (List Key × V)} {ds es : List (D × D)}, RRT H vs ds → RRT H vs es → ds = es
  | _, _, _, .nil, .nil => rfl
  | _, _, _, .cons h r, .cons g s => by rw [RR.det h g, RRT.det r s]
end
/-! ### what unfolds to what -/
mutual
def noref : D → Bool
  | .ref _ => false
  | .ty _ => false
  | .tup ds => norefs ds
  | .lst ds => norefs ds
  | .dct es => norefd es
  | _ => true
def norefs : List D → Bool
  | [] => true
  | d :: ds => noref d && norefs ds
def norefd : List (D × D) → Bool
  | [] => true
  | (_, d) :: es => noref d && norefd es
end
mutual
inductive Un (S : Own) : D → D → Prop
  | leaf {d : D} : noref d = true → Un S d d
  | lstO {a : Addr} {ds es : List D} : S a = some (.lst ds) → Uns S ds es → Un S (.ref a) (.lst es)
  | dctO {a : Addr} {ds es : List (D × D)} : S a = some (.dct ds) → Und S ds es → Un S (.ref a) (.dct es)
  | dczO {a : Addr} {z : Obj × HO} {ds es : List (D × D)} : S a = some (.dcz z ds) → Und S ds es → Un S (.ref a) (.dct es)
  | tup {ds es : List D} : Uns S ds es → Un S (.tup ds) (.tup es)
  | lst {ds es : List D} : Uns S ds es → Un S (.lst ds) (.lst es)
inductive Uns (S : Own) : List D → List D → Prop
  | nil : Uns S [] []
  | cons {d e : D} {ds es : List D} : Un S d e → Uns S ds es → Uns S (d :: ds) (e :: es)
inductive Und (S : Own) : List (D × D) → List (D × D) → Prop
  | nil : Und S [] []
  | cons {k d e : D} {ds es : List (D × D)} : Un S d e → Und S ds es → Und S ((k, d) :: ds) ((k, e) :: es)
end
theorem Uns.leaf {S : Own} : ∀ {ds : List D}, norefs ds = true → Uns S ds ds
  | [], _ => .nil
  | d :: ds, h => by
    unfold norefs at h
    rw [Bool.and_eq_true] at h
    exact .cons (.leaf h.1) (Uns.leaf h.2)
theorem Und.leaf {S : Own} : ∀ {ds : List (D × D)}, norefd ds = true → Und S ds ds
  | [], _ => .nil
  | (k, d) :: ds, h => by
    unfold norefd at h
    rw [Bool.and_eq_true] at h
    exact .cons (.leaf h.1) (Und.leaf h.2)
section
variable {K : PySem.W.Frag} {H : Hp} {S : Own}
mutual
theorem Rep.rr : ∀ {v : V} {d : D}, Rep K H S v d → noref d = true → RR H v d
  | _, _, .non, _ => .non
  | _, _, .bl b, _ => .bl b
  | _, _, .int i, _ => .int i
  | _, _, .str x, _ => .str x
  | _, _, .ty n, h => nomatch h
  | _, _, .ref a, h => nomatch h
  | _, _, .tup h r, n => .tup h.1 (Reps.rr r n)
  | _, _, .lst h r, n => .lst h.1 (Reps.rr r n)
  | _, _, .dk h r, n => .dk h.1 (RepK.rr r n)
  | _, _, .dt h r, n => .dt h.1 (RepT.rr r n)
theorem Reps.rr : ∀ {vs : List V} {ds : List D}, Reps K H S vs ds → norefs ds = true → RRs H vs ds
  | _, _, .nil, _ => .nil
  | _, _, .cons h r, n => by
    unfold norefs at n
    rw [Bool.and_eq_true] at n
    exact .cons (Rep.rr h n.1) (Reps.rr r n.2)
theorem RepK.rr : ∀ {vs : List (Key × V)} {ds : List (D × D)}, RepK K H S vs ds → norefd ds = true → RRK H vs ds
  | _, _, .nil, _ => .nil
  | _, _, .cons h r, n => by
    unfold norefd at n
    rw [Bool.and_eq_true] at n
    exact .cons (Rep.rr h n.1) (RepK.rr r n.2)
theorem RepT.rr : ∀ {vs : List (List Key × V)} {ds : List (D × D)}, RepT K H S vs ds → norefd ds = true → RRT H vs ds
  | _, _, .nil, _ => .nil
  | _, _, .cons h r, n => by
    unfold norefd at n
    rw [Bool.and_eq_true] at n
    exact .cons (Rep.rr h n.1) (RepT.rr r n.2)
end
end
section
variable {K : PySem.W.Frag} {H : Hp} {S Z : Own}
mutual
theorem Un.rr (W : Owns K H (over S Z)) : ∀ {d e : D}, Un S d e → ∀ {v : V}, Rep K H (over S Z) v d → RR H v e
  | _, _, .leaf n, _, h => h.rr n
  | _, _, .lstO (a := a) hs u, _, h => by
    cases h
    obtain ⟨vs, hv, r⟩ := W a _ (over_some hs)
    exact .lst (.inl hv) (Uns.rr W u r)
  | _, _, .dctO (a := a) hs u, _, h => by
    cases h
    rcases W a _ (over_some hs) with ⟨kvs, hv, r⟩ | ⟨kvs, hv, r⟩
    · exact .dk (.inl hv) (Und.rrK W u r)
    · exact .dt (.inl hv) (Und.rrT W u r)
  | _, _, .dczO (a := a) (z := z) hs u, _, h => by
    cases h
    obtain ⟨hv, ⟨kvs, e, r⟩ | ⟨kvs, e, r⟩⟩ := W a _ (over_some hs)
    · exact .dk (.inr ⟨z.1, by rw [hv, e]⟩) (Und.rrK W u r)
    · exact .dt (.inr ⟨z.1, by rw [hv, e]⟩) (Und.rrT W u r)
  | _, _, .tup u, _, h => by
    obtain ⟨a, vs, rfl, ha, r⟩ := rep_tup h
    exact .tup ha.1 (Uns.rr W u r)
  | _, _, .lst u, _, h => by
    obtain ⟨a, vs, rfl, ha, r⟩ := rep_lst h
    exact .lst ha.1 (Uns.rr W u r)
theorem Uns.rr (W : Owns K H (over S Z)) : ∀ {ds es : List D}, Uns S ds es → ∀ {vs : List V}, Reps K H (over S Z) vs ds → RRs H vs es
  | _, _, .nil, _, .nil => .nil
  | _, _, .cons u us, _, .cons h r => .cons (Un.rr W u h) (Uns.rr W us r)
theorem Und.rrK (W : Owns K H (over S Z)) : ∀ {ds es : List (D × D)}, Und S ds es → ∀ {vs : List (Key × V)}, RepK K H (over S Z) vs ds → RRK H vs es
  | _, _, .nil, _, .nil => .nil
  | _, _, .cons u us, _, .cons h r => .cons (Un.rr W u h) (Und.rrK W us r)
theorem Und.rrT (W : Owns K H (over S Z)) : ∀ {ds es : List (D × D)}, Und S ds es → ∀ {vs : List (List Key × V)}, RepT K H (over S Z) vs ds → RRT H vs es
  | _, _, .nil, _, .nil => .nil
  | _, _, .cons u us, _, .cons h r => .cons (Un.rr W u h) (Und.rrT W us r)
end
end
end DL
namespace DL
open PySem PySem.Spec PyProof.Rows L2
open PySem.SeqAt (EqIn EqAt)
open PySem.W (KeqHitsIn)
/-! ### data without dicts, as the kit's -/
mutual
def plD : D → Bool
  | .non => true
  | .bl _ => true
  | .int _ => true
  | .str _ => true
  | .tup ds => plDs ds
  | .lst ds => plDs ds
  | _ => false
def plDs : List D → Bool
  | [] => true
  | d :: ds => plD d && plDs ds
end
mutual
def toP : D → PyData
  | .bl b => .bool b
  | .int i => .int i
  | .str x => .str x
  | .tup ds => .tuple (toPs ds)
  | .lst ds => .list (toPs ds)
  | _ => .none
def toPs : List D → List PyData
  | [] => []
  | d :: ds => toP d :: toPs ds
end
theorem toPs_len : ∀ ds : List D, (toPs ds).length = ds.length
  | [] => rfl
  | _ :: ds => by simp [toPs, toPs_len ds]
mutual
theorem toP_plain : ∀ {d : D}, plD d = true → (toP d).plain = true
  | .non, _ => rfl
  | .bl _, _ => rfl
  | .int _, _ => rfl
  | .str _, _ => rfl
  | .tup ds, h => by unfold toP PyData.plain; exact toPs_plain h
  | .lst ds, h => by unfold toP PyData.plain; exact toPs_plain h
  | .ty _, h => nomatch h
  | .dct _, h => nomatch h
  | .ref _, h => nomatch h
theorem toPs_plain : ∀ {ds : List D}, plDs ds = true → PyData.plainAll (toPs ds) = true
  | [], _ => rfl
  | d :: ds, h => by
    unfold plDs at h
    rw [Bool.and_eq_true] at h
    unfold toPs PyData.plainAll
    rw [toP_plain h.1, toPs_plain h.2]; rfl
end
mutual
theorem toP_eqv : ∀ {d e : D}, plD d = true → plD e = true → PyData.eqv (toP d) (toP e) = eqv d e
  | .tup xs, .tup ys, h, g => by
    show PyData.eqvAll (toPs xs) (toPs ys) = eqvs xs ys
    exact toPs_eqv h g
  | .lst xs, .lst ys, h, g => by
    show PyData.eqvAll (toPs xs) (toPs ys) = eqvs xs ys
    exact toPs_eqv h g
  | .non, .non, _, _ => rfl
  | .non, .bl _, _, _ => rfl
  | .non, .int _, _, _ => rfl
  | .non, .str _, _, _ => rfl
  | .non, .tup _, _, _ => rfl
  | .non, .lst _, _, _ => rfl
  | .bl _, .non, _, _ => rfl
  | .bl _, .bl _, _, _ => rfl
  | .bl _, .int _, _, _ => rfl
  | .bl _, .str _, _, _ => rfl
  | .bl _, .tup _, _, _ => rfl
  | .bl _, .lst _, _, _ => rfl
  | .int _, .non, _, _ => rfl
  | .int _, .bl _, _, _ => rfl
  | .int _, .int _, _, _ => rfl
  | .int _, .str _, _, _ => rfl
  | .int _, .tup _, _, _ => rfl
  | .int _, .lst _, _, _ => rfl
  | .str _, .non, _, _ => rfl
  | .str _, .bl _, _, _ => rfl
  | .str _, .int _, _, _ => rfl
  | .str _, .str _, _, _ => rfl
  | .str _, .tup _, _, _ => rfl
  | .str _, .lst _, _, _ => rfl
  | .tup _, .non, _, _ => rfl
  | .tup _, .bl _, _, _ => rfl
  | .tup _, .int _, _, _ => rfl
  | .tup _, .str _, _, _ => rfl
  | .tup _, .lst _, _, _ => rfl
  | .lst _, .non, _, _ => rfl
  | .lst _, .bl _, _, _ => rfl
  | .lst _, .int _, _, _ => rfl
  | .lst _, .str _, _, _ => rfl
  | .lst _, .tup _, _, _ => rfl
  | .ty _, _, h, _ => nomatch h
  | .dct _, _, h, _ => nomatch h
  | .ref _, _, h, _ => nomatch h
  | _, .ty _, _, h => nomatch h
  | _, .dct _, _, h => nomatch h
  | _, .ref _, _, h => nomatch h
theorem toPs_eqv : ∀ {xs ys : List D}, plDs xs = true → plDs ys = true → PyData.eqvAll (toPs xs) (toPs ys) = eqvs xs ys
  | [], [], _, _ => rfl
  | [], _ :: _, _, _ => rfl
  | _ :: _, [], _, _ => rfl
  | x :: xs, y :: ys, h, g => by
    unfold plDs at h g
    rw [Bool.and_eq_true] at h g
    show (PyData.eqv (toP x) (toP y) && PyData.eqvAll (toPs xs) (toPs ys)) = (eqv x y && eqvs xs ys)
    rw [toP_eqv h.1 g.1, toPs_eqv h.2 g.2]
end
section
variable {P : Program} {w : World} {H : Hp} {h : Heap}
theorem vals_cons {x : V} {xs : List V} {us : List Value} (r : Vals (x :: xs) us) : ∃ u ws, us = u :: ws ∧ RelV x u ∧ Vals xs ws := by
  cases r with | cons a b => exact ⟨_, _, rfl, a, b⟩
mutual
theorem RR.reads (ok : HOk P w H h) : ∀ {v : V} {d : D}, RR H v d → plD d = true → ∀ {u : Value}, RelV v u → ∃ as, Reads h u (toP d) as
  | _, _, .non, _, _, r => by cases r; exact ⟨_, .none⟩
  | _, _, .bl b, _, _, r => by cases r; exact ⟨_, .bool b⟩
  | _, _, .int i, _, _, r => by obtain ⟨t, rfl⟩ := r; exact ⟨_, .int i t⟩
  | _, _, .str x, _, _, r => by obtain ⟨t, rfl⟩ := r; exact ⟨_, .str x t⟩
  | _, _, .tup e rs, p, _, r => by
    cases r
    obtain ⟨_, its, vr, o, h1, h2, n, h3⟩ := (show ObjOk P w H h _ (.tup _) from ok _ _ e)
    obtain ⟨as, q⟩ := RRs.reads ok rs p vr
    exact ⟨_, .tuple h1 h2 h3 q⟩
  | _, _, .lst e rs, p, _, r => by
    cases r
    obtain ⟨_, its, n, vr, h1⟩ := (show ObjOk P w H h _ (.lst _) from rd_of ok e)
    obtain ⟨as, q⟩ := RRs.reads ok rs p vr
    exact ⟨_, .list h1 rfl rfl q⟩
  | _, _, .dk _ _, p, _, _ => nomatch p
  | _, _, .dt _ _, p, _, _ => nomatch p
theorem RRs.reads (ok : HOk P w H h) : ∀ {vs : List V} {ds : List D}, RRs H vs ds → plDs ds = true → ∀ {us : List Value}, Vals vs us → ∃ as, ReadsAll h us (toPs ds) as
  | _, _, .nil, _, _, r => by cases r; exact ⟨_, .nil⟩
  | _, _, .cons a b, p, _, r => by
    unfold plDs at p
    rw [Bool.and_eq_true] at p
    obtain ⟨u, ws, rfl, ra, rb⟩ := vals_cons r
    obtain ⟨as, q⟩ := RR.reads ok a p.1 ra
    obtain ⟨bs, q'⟩ := RRs.reads ok b p.2 rb
    exact ⟨_, .cons q q'⟩
end
end
/-! ### what may be compared: depth at most n, dicts of like keys -/
def plMin (d e : D) : Nat := min (toP d).depth (toP e).depth
def likeK (xs ys : List (D × D)) : Bool := (xs.all fun p => !tupB p.1) && (ys.all fun p => !tupB p.1) || (xs.all fun p => tupB p.1) && (ys.all fun p => tupB p.1)
def okE : Nat → D → D → Bool
  | 0, d, e => plD d && plD e && decide (plMin d e = 0)
  | n + 1, d, e => plD d && plD e && decide (plMin d e ≤ n + 1) || (match d, e with
    | .lst xs, .lst ys => xs.length != ys.length || (xs.zip ys).all fun p => okE n p.1 p.2
    | .tup xs, .tup ys => (xs.zip ys).all fun p => okE n p.1 p.2
    | .dct xs, .dct ys => likeK xs ys && (xs.length != ys.length || xs.all fun p => match ys.find? (fun q => eqv p.1 q.1) with
      | some q => okE n p.2 q.2
      | none => true)
    | _, _ => false)
/-! ### items, pairs -/
def pairE (xs ys : List D) (j : Nat) : Bool := match xs[j]?, ys[j]? with
  | some x, some y => eqv x y
  | _, _ => true
theorem pairE_all : ∀ xs ys : List D, ((List.range (min xs.length ys.length)).all (pairE xs ys) && xs.length == ys.length) = eqvs xs ys
  | [], [] => rfl
  | [], _ :: _ => by simp [eqvs]
  | _ :: _, [] => by simp [eqvs]
  | x :: xs, y :: ys => by
    have ih := pairE_all xs ys
    have m : min (x :: xs).length (y :: ys).length = min xs.length ys.length + 1 := by simp only [List.length_cons]; omega
    have l : ((x :: xs).length == (y :: ys).length) = (xs.length == ys.length) := by simp
    have t : (pairE (x :: xs) (y :: ys)) ∘ Nat.succ = pairE xs ys := by funext j; simp [pairE]
    rw [m, l, List.range_succ_eq_map, List.all_cons, List.all_map, t]
    show (eqv x y && _ && _) = (eqv x y && eqvs xs ys)
    rw [← ih, Bool.and_assoc]
theorem pairE_same {xs ys : List D} (h : xs.length = ys.length) : (List.range xs.length).all (pairE xs ys) = eqvs xs ys := by
  have := pairE_all xs ys
  rw [← h, Nat.min_self] at this
  simpa using this
theorem eqvs_len : ∀ {xs ys : List D}, xs.length ≠ ys.length → eqvs xs ys = false
  | [], [], h => absurd rfl h
  | [], _ :: _, _ => rfl
  | _ :: _, [], _ => rfl
  | x :: xs, y :: ys, h => by
    show (eqv x y && eqvs xs ys) = false
    rw [eqvs_len (fun e => h (by simp [e])), Bool.and_false]
section
variable {P : Program} {w : World} {H : Hp} {s : Shared} {A : Around}
theorem RRs.length : ∀ {vs : List V} {ds : List D}, RRs H vs ds → vs.length = ds.length
  | _, _, .nil => rfl
  | _, _, .cons _ r => by rw [List.length_cons, List.length_cons, RRs.length r]
theorem RRK.length : ∀ {vs : List (Key × V)} {ds : List (D × D)}, RRK H vs ds → vs.length = ds.length
  | _, _, .nil => rfl
  | _, _, .cons _ r => by rw [List.length_cons, List.length_cons, RRK.length r]
theorem RRT.length : ∀ {vs : List (List Key × V)} {ds : List (D × D)}, RRT H vs ds → vs.length = ds.length
  | _, _, .nil => rfl
  | _, _, .cons _ r => by rw [List.length_cons, List.length_cons, RRT.length r]
theorem items_eq (f : ∀ {x y v u d e}, okE n d e = true → RR H x d → RR H y e → RelV x v → RelV y u → EqIn P w A s v u (eqv d e)) :
    ∀ {xs ys : List V} {ds es : List D} {us ws : List Value}, RRs H xs ds → RRs H ys es → Vals xs us → Vals ys ws → ((ds.zip es).all fun p => okE n p.1 p.2) = true →
      ∀ j (j1 : j < us.length) (j2 : j < ws.length), EqIn P w A s us[j] ws[j] (pairE ds es j)
  | _, _, _, _, _, _, .nil, _, .nil, _, _, _, j1, _ => absurd j1 (Nat.not_lt_zero _)
  | _, _, _, _, _, _, _, .nil, _, .nil, _, _, _, j2 => absurd j2 (Nat.not_lt_zero _)
  | _, _, _, _, _, _, .cons h r, .cons h' r', .cons v vs, .cons v' vs', ok, 0, _, _ => by
    rw [List.zip_cons_cons, List.all_cons, Bool.and_eq_true] at ok
    exact f ok.1 h h' v v'
  | _, _, _, _, _, _, .cons h r, .cons h' r', .cons v vs, .cons v' vs', ok, j + 1, j1, j2 => by
    rw [List.zip_cons_cons, List.all_cons, Bool.and_eq_true] at ok
    exact items_eq f r r' vs vs' ok.2 j (Nat.lt_of_succ_lt_succ j1) (Nat.lt_of_succ_lt_succ j2)
end
end DL
namespace DL
open PySem PySem.Spec PyProof.Rows L2
open PySem.SeqAt (EqIn EqAt)
open PySem.W (KeqHitsIn)
/-! ### dicts of one kind of key -/
def RGk {κ : Type} (H : Hp) (kd : κ → D) (kvs : List (κ × V)) (es : List (D × D)) : Prop := Paired (fun (p : κ × V) (q : D × D) => q.1 = kd p.1 ∧ RR H p.2 q.2) kvs es
abbrev kdT (k : List Key) : D := .tup (k.map keyD)
theorem RRK.rgk {H : Hp} : ∀ {ks : List (Key × V)} {es : List (D × D)}, RRK H ks es → RGk H keyD ks es
  | _, _, .nil => .nil
  | _, _, .cons h r => .cons ⟨rfl, h⟩ (RRK.rgk r)
theorem RRT.rgk {H : Hp} : ∀ {ks : List (List Key × V)} {es : List (D × D)}, RRT H ks es → RGk H kdT ks es
  | _, _, .nil => .nil
  | _, _, .cons h r => .cons ⟨rfl, h⟩ (RRT.rgk r)
section
variable {κ : Type} [DecidableEq κ] {kd : κ → D} {H : Hp}
theorem RGk.look (inj : ∀ a b, eqv (kd a) (kd b) = decide (a = b)) (k : κ) {ls : List (κ × V)} {es : List (D × D)} (r : RGk H kd ls es) :
    (valV ls k = none ∧ es.find? (fun q => eqv (kd k) q.1) = none) ∨ ∃ v q, valV ls k = some v ∧ es.find? (fun q => eqv (kd k) q.1) = some q ∧ RR H v q.2 := by
  unfold RGk at r
  induction r with
  | nil => exact .inl ⟨rfl, rfl⟩
  | @cons p q ps qs h t ih =>
    obtain ⟨j, v⟩ := p
    obtain ⟨jd, d⟩ := q
    obtain ⟨e1, h2⟩ := h
    have e1' : jd = kd j := e1
    subst e1'
    rw [List.find?_cons]
    by_cases e : j = k
    · subst e
      refine .inr ⟨v, (kd j, d), by rw [valV_pos rfl], ?_, h2⟩
      show (match eqv (kd j) (kd j) with | true => _ | false => _) = _
      rw [inj, decide_eq_true rfl]
    · rw [valV_neg e]
      have ne : eqv (kd k) (kd j) = false := by rw [inj]; exact decide_eq_false fun z => e z.symm
      rcases ih with ⟨i1, i2⟩ | ⟨v', q', i1, i2, i3⟩
      · refine .inl ⟨i1, ?_⟩
        show (match eqv (kd k) (kd j) with | true => _ | false => _) = _
        rw [ne]; exact i2
      · refine .inr ⟨v', q', i1, ?_, i3⟩
        show (match eqv (kd k) (kd j) with | true => _ | false => _) = _
        rw [ne]; exact i2
theorem RGk.mem (inj : ∀ a b, eqv (kd a) (kd b) = decide (a = b)) {ls : List (κ × V)} {es : List (D × D)} (r : RGk H kd ls es) : (ls.map (·.1)).Nodup → ∀ p ∈ es, (∃ k v, (k, v) ∈ ls ∧ p.1 = kd k) ∧ es.find? (fun q => eqv p.1 q.1) = some p := by
  unfold RGk at r
  induction r with
  | nil => intro _ p hp; exact nomatch hp
  | @cons p q ps qs h t ih =>
    intro nd p' hp
    rw [List.map_cons, List.nodup_cons] at nd
    obtain ⟨j, v⟩ := p
    obtain ⟨jd, d⟩ := q
    obtain ⟨e1, h2⟩ := h
    have e1' : jd = kd j := e1
    subst e1'
    rcases List.mem_cons.mp hp with rfl | hp
    · refine ⟨⟨j, v, List.mem_cons_self, rfl⟩, ?_⟩
      rw [List.find?_cons]
      show (match eqv (kd j) (kd j) with | true => _ | false => _) = _
      rw [inj, decide_eq_true rfl]
    · obtain ⟨⟨k, v', m, e⟩, f⟩ := ih nd.2 p' hp
      refine ⟨⟨k, v', List.mem_cons_of_mem _ m, e⟩, ?_⟩
      have ne : j ≠ k := fun z => nd.1 (by rw [z]; exact List.mem_map.mpr ⟨_, m, rfl⟩)
      rw [List.find?_cons]
      have : eqv p'.1 (kd j) = false := by rw [e, inj]; exact decide_eq_false fun z => ne z.symm
      show (match eqv p'.1 (kd j) with | true => _ | false => _) = _
      rw [this]; exact f
theorem subs_mem {es : List (D × D)} : ∀ {r : List (D × D)}, (∀ p ∈ r, es.find? (fun q => eqv p.1 q.1) = some p ∧ eqv p.2 p.2 = true) → subs r es = true
  | [], _ => rfl
  | (k, v) :: r, h => by
    obtain ⟨h1, h2⟩ := h _ List.mem_cons_self
    unfold subs
    simp only at h1 h2
    rw [h1]
    show (eqv v v && _) = true
    rw [h2, subs_mem fun p m => h p (List.mem_cons_of_mem _ m)]; rfl
end
theorem KV.keys {κ : Type} {ks : List (κ × V)} {vs : List (κ × Value)} (r : KV ks vs) : ks.map (·.1) = vs.map (·.1) := by
  unfold KV at r
  induction r with
  | nil => rfl
  | cons h _ ih => rw [List.map_cons, List.map_cons, ih, h.1]
theorem KT.kv {H : Hp} {ks : List (List Key × V)} {xs : List (List Key × Addr × Value)} (r : KT H ks xs) : KV ks (pairsH xs) := by
  unfold KT at r
  unfold KV
  induction r with
  | nil => exact .nil
  | cons h _ ih => exact .cons ⟨h.1, h.2.2⟩ ih
theorem pairsH_keys {κ : Type} (xs : List (κ × Addr × Value)) : (pairsH xs).map (·.1) = xs.map (·.1) := by
  unfold pairsH; rw [List.map_map]; rfl
section
variable {P : Program} {w : World} {H : Hp} {h : Heap}
theorem nodupK (ok : HOk P w H h) {a : Addr} {ks : List (Key × V)} (e : Rd H a (.dK ks)) : (ks.map (·.1)).Nodup := by
  obtain ⟨_, _, vs, r, o, es, ep, _, _, _, _, _, n⟩ := dk_rd ok e
  rw [KV.keys r]; exact n
theorem nodupT (ok : HOk P w H h) {a : Addr} {ks : List (List Key × V)} (e : Rd H a (.dT ks)) : (ks.map (·.1)).Nodup := by
  obtain ⟨_, _, xs, r, o, es, ep, _, _, _, _, _, n⟩ := dt_rd ok e
  rw [KV.keys (KT.kv r), pairsH_keys]; exact n
mutual
theorem RR.refl (ok : HOk P w H h) : ∀ {v : V} {d : D}, RR H v d → eqv d d = true
  | _, _, .non => rfl
  | _, _, .bl b => by show (b == b) = true; simp
  | _, _, .int i => by show (i == i) = true; simp
  | _, _, .str x => by show (x == x) = true; simp
  | _, _, .tup e r => RRs.refl ok r
  | _, _, .lst e r => RRs.refl ok r
  | _, _, .dk (es := es) e r => by
    show (es.length == es.length && subs es es) = true
    rw [subs_mem fun p m => ⟨(RGk.mem eqv_key (RRK.rgk r) (nodupK ok e) p m).2, RRK.refl ok r p m⟩]; simp
  | _, _, .dt (es := es) e r => by
    show (es.length == es.length && subs es es) = true
    rw [subs_mem fun p m => ⟨(RGk.mem (kd := kdT) eqv_tt (RRT.rgk r) (nodupT ok e) p m).2, RRT.refl ok r p m⟩]; simp
theorem RRs.refl (ok : HOk P w H h) : ∀ {vs : List V} {ds : List D}, RRs H vs ds → eqvs ds ds = true
  | _, _, .nil => rfl
  | _, d :: ds, .cons a b => by show (eqv d d && eqvs ds ds) = true; rw [RR.refl ok a, RRs.refl ok b]; rfl
theorem RRK.refl (ok : HOk P w H h) : ∀ {vs : List (Key × V)} {ds : List (D × D)}, RRK H vs ds → ∀ p ∈ ds, eqv p.2 p.2 = true
  | _, _, .nil, p, m => nomatch m
  | _, _, .cons a b, p, m => by
    rcases List.mem_cons.mp m with e | m
    · rw [e]; exact RR.refl ok a
    · exact RRK.refl ok b p m
theorem RRT.refl (ok : HOk P w H h) : ∀ {vs : List (List Key × V)} {ds : List (D × D)}, RRT H vs ds → ∀ p ∈ ds, eqv p.2 p.2 = true
  | _, _, .nil, p, m => nomatch m
  | _, _, .cons a b, p, m => by
    rcases List.mem_cons.mp m with e | m
    · rw [e]; exact RR.refl ok a
    · exact RRT.refl ok b p m
end
end
section
variable {P : Program} {w : World} {A : Around} {s : Shared} {H : Hp} {κ : Type} [DecidableEq κ] {kd : κ → D}
theorem hits_of (inj : ∀ a b, eqv (kd a) (kd b) = decide (a = b)) {n : Nat} (f : ∀ {x y v u d e}, okE n d e = true → RR H x d → RR H y e → RelV x v → RelV y u → EqIn P w A s v u (eqv d e))
    {ls : List (κ × V)} {vb : List (κ × Value)} {es' : List (D × D)} (rb : KV ls vb) (rl : RGk H kd ls es') {ks : List (κ × V)} {va : List (κ × Value)} {es : List (D × D)} (rk : RGk H kd ks es) :
    KV ks va → (es.all fun p => match es'.find? (fun q => eqv p.1 q.1) with | some q => okE n p.2 q.2 | none => true) = true → KeqHitsIn P w A s vb va (subs es es') := by
  unfold RGk at rk
  induction rk generalizing va with
  | nil => intro r _; cases r; exact .nil
  | @cons p q ps qs h t ih =>
    intro r ok
    rw [List.all_cons, Bool.and_eq_true] at ok
    obtain ⟨j, v⟩ := p
    obtain ⟨jd, d⟩ := q
    obtain ⟨e1, h2⟩ := h
    have e1' : jd = kd j := e1
    subst e1'
    cases r with
    | @cons _ q' _ qs' hr tr =>
      obtain ⟨j', u⟩ := q'
      obtain ⟨r1, r2⟩ := hr
      have r1' : j = j' := r1
      subst r1'
      have rel := rb.val j
      unfold subs
      rcases RGk.look inj j rl with ⟨l1, l2⟩ | ⟨v', q', l1, l2, l3⟩
      · rw [l1] at rel
        rw [l2]
        exact .miss rel.none_of
      · rw [l1] at rel
        obtain ⟨y, ey, ry⟩ := rel.some_of
        have ok1 := ok.1
        simp only [l2] at ok1
        rw [l2]
        exact .hit ey (f ok1 h2 l3 r2 ry) (ih tr ok.2)
end
end DL
namespace DL
open PySem PySem.Spec PyProof.Rows L2
open PySem.SeqAt (EqIn EqAt rcIn_lists rcIn_tuples)
open PySem.W (KeqHitsIn)
theorem plain_room {d e : D} {n u : Nat} (hu : u + n < cLine) (h : plMin d e ≤ n) : u + min (toP d).depth (toP e).depth < cLine := by
  unfold plMin at h; omega
theorem likeK_nil {H : Hp} {ks : List (Key × V)} {ls : List (List Key × V)} {es es' : List (D × D)} (h : RRK H ks es) (g : RRT H ls es') (l : likeK es es' = true) : ks = [] ∨ ls = [] := by
  unfold likeK at l
  rw [Bool.or_eq_true, Bool.and_eq_true, Bool.and_eq_true] at l
  rcases l with ⟨_, l⟩ | ⟨l, _⟩
  · cases g with
    | nil => exact .inr rfl
    | cons _ _ => rw [List.all_cons] at l; exact absurd l (by simp [tupB])
  · cases h with
    | nil => exact .inl rfl
    | @cons k _ _ _ _ _ _ => rw [List.all_cons] at l; exact absurd l (by cases k <;> simp [tupB, keyD])
theorem likeK_nil' {H : Hp} {ks : List (Key × V)} {ls : List (List Key × V)} {es es' : List (D × D)} (h : RRT H ls es) (g : RRK H ks es') (l : likeK es es' = true) : ks = [] ∨ ls = [] := by
  unfold likeK at l
  rw [Bool.or_eq_true, Bool.and_eq_true, Bool.and_eq_true] at l
  rcases l with ⟨l, _⟩ | ⟨_, l⟩
  · cases h with
    | nil => exact .inr rfl
    | cons _ _ => rw [List.all_cons] at l; exact absurd l (by simp [tupB])
  · cases g with
    | nil => exact .inl rfl
    | @cons k _ _ _ _ _ _ => rw [List.all_cons] at l; exact absurd l (by cases k <;> simp [tupB, keyD])
section
variable {X : Cx} {pins : List (Addr × Obj)} {σ : St} {H : Hp} {s : Shared}
/-- two dicts, of a kind -/
theorem dicts_run (I : Inv X pins σ H s) {A : Around} {n : Nat} (hu : A.units + 1 < cLine) (f : ∀ {x y v u d e}, okE n d e = true → RR H x d → RR H y e → RelV x v → RelV y u → EqIn X.prog X.w A.in1 s v u (eqv d e))
    {a b : Addr} {es es' : List (D × D)} (ha : RR H (.ref a) (.dct es)) (hb : RR H (.ref b) (.dct es')) (lk : likeK es es' = true)
    (ok : es.length = es'.length → (es.all fun p => match es'.find? (fun q => eqv p.1 q.1) with | some q => okE n p.2 q.2 | none => true) = true) (E Q : Value → Shared → Prop) (q : Q (.bool (es.length == es'.length && subs es es')) s) :
    wpAny (model X.prog X.w) A (compareOp .Eq (.ref a) (.ref b)) Q E s := by
  have K : ∀ {ks ls : List (Key × V)} {va vb : List (Key × Value)}, KV ks va → KV ls vb → RRK H ks es → RRK H ls es' → (a == sysModules) = false → (b == sysModules) = false → s.heap.DictOf (mixKind X.prog X.w) a va → s.heap.DictOf (mixKind X.prog X.w) b vb → wpAny (model X.prog X.w) A (compareOp .Eq (.ref a) (.ref b)) Q E s := fun {ks ls va vb} ra rb ka kb na nb da db => by
    have l1 : va.length = es.length := by rw [← ra.length, ka.length]
    have l2 : vb.length = es'.length := by rw [← rb.length, kb.length]
    exact PySem.W.keq_eqIn na nb da db (by omega) (fun hl => hits_of eqv_key f rb kb.rgk ka.rgk ra (ok (by rw [← l1, ← l2]; exact hl))) (by rw [l1, l2]; exact q)
  have T : ∀ {ks ls : List (List Key × V)} {xa xb : List (List Key × Addr × Value)}, KV ks (pairsH xa) → KV ls (pairsH xb) → RRT H ks es → RRT H ls es' → (a == sysModules) = false → (b == sysModules) = false → s.heap.DictOfH (tupleKind (mixKind X.prog X.w)) a xa → s.heap.DictOfH (tupleKind (mixKind X.prog X.w)) b xb → wpAny (model X.prog X.w) A (compareOp .Eq (.ref a) (.ref b)) Q E s := fun {ks ls xa xb} ra rb ka kb na nb da db => by
    have l1 : xa.length = es.length := by rw [← ka.length, ra.length]; unfold pairsH; rw [List.length_map]
    have l2 : xb.length = es'.length := by rw [← kb.length, rb.length]; unfold pairsH; rw [List.length_map]
    exact keqT_eq (kd := tupleKind (mixKind X.prog X.w)) na nb (show A.units + 1 < cLine from hu) da db (by omega) (fun hl => hits_of (kd := kdT) eqv_tt f rb kb.rgk ka.rgk ra (ok (by rw [← l1, ← l2]; exact hl))) (by rw [l1, l2]; exact q)
  cases ha with
  | dk h r =>
    obtain ⟨_, na, va, ra, da⟩ := dk_rd I.hok h
    cases hb with
    | dk h' r' =>
      obtain ⟨_, nb, vb, rb, db⟩ := dk_rd I.hok h'
      exact K ra rb r r' na nb da db
    | dt h' r' =>
      obtain ⟨_, nb, xb, rb, db⟩ := dt_rd I.hok h'
      rcases likeK_nil r r' lk with rfl | rfl
      · obtain ⟨na, da⟩ := empty_T I h
        cases r
        exact T (ks := []) (xa := []) (show KV [] (pairsH []) from .nil) (KT.kv rb) .nil r' na nb da db
      · obtain ⟨nb, db⟩ := empty_K I h'
        cases r'
        exact K ra .nil r .nil na nb da db
  | dt h r =>
    obtain ⟨_, na, xa, ra, da⟩ := dt_rd I.hok h
    cases hb with
    | dt h' r' =>
      obtain ⟨_, nb, xb, rb, db⟩ := dt_rd I.hok h'
      exact T (KT.kv ra) (KT.kv rb) r r' na nb da db
    | dk h' r' =>
      obtain ⟨_, nb, vb, rb, db⟩ := dk_rd I.hok h'
      rcases likeK_nil' r r' lk with rfl | rfl
      · obtain ⟨nb, db⟩ := empty_T I h'
        cases r'
        exact T (ls := []) (xb := []) (KT.kv ra) (show KV [] (pairsH []) from .nil) r .nil na nb da db
      · obtain ⟨na, da⟩ := empty_K I h
        cases r
        exact K .nil rb .nil r' na nb da db
theorem lst_is (I : Inv X pins σ H s) {a : Addr} {vs : List V} (h : Rd H a (.lst vs)) : ∃ its : List Value, Vals vs its ∧ s.heap.IsList a its.toArray := by
  obtain ⟨_, its, n, r, e⟩ := (show ObjOk X.prog X.w H s.heap a (.lst vs) from rd_of I.hok h)
  exact ⟨its, r, ⟨_, e, rfl, n, rfl⟩⟩
theorem tup_is (I : Inv X pins σ H s) {a : Addr} {vs : List V} (h : H a = some (.tup vs)) : ∃ its : List Value, Vals vs its ∧ s.heap.IsTuple a its.toArray := by
  obtain ⟨_, its, r, o, e1, e2, n, e3⟩ := (show ObjOk X.prog X.w H s.heap a (.tup vs) from I.hok a _ h)
  exact ⟨its, r, ⟨o, e1, e2, n, e3⟩⟩
theorem arr_items {A : Around} {us ws : List Value} {f : Nat → Bool} (h : ∀ j (j1 : j < us.length) (j2 : j < ws.length), EqIn X.prog X.w A s us[j] ws[j] (f j)) (j : Nat) (j1 : j < us.toArray.size) (j2 : j < ws.toArray.size) : EqIn X.prog X.w A s us.toArray[j] ws.toArray[j] (f j) := by
  simpa using h j (by simpa using j1) (by simpa using j2)
/-- what stands at two addresses, one below -/
theorem step_eq (I : Inv X pins σ H s) {A : Around} {n : Nat} (hu : A.units + 1 < cLine) (f : ∀ {x y v u d e}, okE n d e = true → RR H x d → RR H y e → RelV x v → RelV y u → EqIn X.prog X.w A.in1 s v u (eqv d e))
    {d e : D} {x y : V} {v u : Value} (ok : (match d, e with
    | .lst xs, .lst ys => xs.length != ys.length || (xs.zip ys).all fun p => okE n p.1 p.2
    | .tup xs, .tup ys => (xs.zip ys).all fun p => okE n p.1 p.2
    | .dct xs, .dct ys => likeK xs ys && (xs.length != ys.length || xs.all fun p => match ys.find? (fun q => eqv p.1 q.1) with
      | some q => okE n p.2 q.2
      | none => true)
    | _, _ => false) = true) (hx : RR H x d) (hy : RR H y e) (rx : RelV x v) (ry : RelV y u) :
    ∃ a b, x = .ref a ∧ y = .ref b ∧ v = .ref a ∧ u = .ref b ∧ (∀ (E Q : Value → Shared → Prop), Q (.bool (eqv d e)) s → wpAny (model X.prog X.w) A (compareOp .Eq (.ref a) (.ref b)) Q E s) ∧
      ((∀ z, d ≠ .dct z) → ∀ (E Q : Value → Shared → Prop), Q (.bool (!eqv d e)) s → wpAny (model X.prog X.w) A (compareOp .NotEq (.ref a) (.ref b)) Q E s) := by
  cases hx with
  | @lst a vs ds h r =>
    cases hy with
    | @lst b ws es h' r' =>
      cases rx; cases ry
      obtain ⟨us, r1, p1⟩ := lst_is I h
      obtain ⟨ts, r2, p2⟩ := lst_is I h'
      have l1 : us.length = ds.length := by rw [← r1.length, r.length]
      have l2 : ts.length = es.length := by rw [← r2.length, r'.length]
      refine ⟨a, b, rfl, rfl, rfl, rfl, fun E Q q => ?_, fun _ E Q q => ?_⟩
      · by_cases hl : ds.length = es.length
        · have ok2 : (ds.zip es).all (fun p => okE n p.1 p.2) = true := by simpa [hl] using ok
          refine rcIn_lists p1 p2 (by simp [l1, l2, hl]) (by omega) (arr_items (items_eq f r r' r1 r2 ok2)) ?_
          rw [List.size_toArray, l1, pairE_same hl]; exact q
        · refine PySem.SeqAt.RcAt.lists_lengths p1 p2 (by simpa [l1, l2] using hl) (by omega) X.prog X.w E Q ?_
          rw [show eqv (.lst ds) (.lst es) = false from eqvs_len hl] at q
          exact q
      · by_cases hl : ds.length = es.length
        · have ok2 : (ds.zip es).all (fun p => okE n p.1 p.2) = true := by simpa [hl] using ok
          refine ne_lists p1 p2 (by simp [l1, l2, hl]) (by omega) (arr_items (items_eq f r r' r1 r2 ok2)) ?_
          rw [List.size_toArray, l1, pairE_same hl]; exact q
        · refine ne_lists_len p1 p2 (by simpa [l1, l2] using hl) (by omega) ?_
          rw [show eqv (.lst ds) (.lst es) = false from eqvs_len hl] at q
          exact q
    | _ => cases ok
  | @tup a vs ds h r =>
    cases hy with
    | @tup b ws es h' r' =>
      cases rx; cases ry
      obtain ⟨us, r1, p1⟩ := tup_is I h
      obtain ⟨ts, r2, p2⟩ := tup_is I h'
      have l1 : us.length = ds.length := by rw [← r1.length, r.length]
      have l2 : ts.length = es.length := by rw [← r2.length, r'.length]
      refine ⟨a, b, rfl, rfl, rfl, rfl, fun E Q q => ?_, fun _ E Q q => ?_⟩
      · refine rcIn_tuples p1 p2 (by omega) (arr_items (items_eq f r r' r1 r2 ok)) ?_
        rw [List.size_toArray, List.size_toArray, l1, l2, pairE_all]; exact q
      · refine ne_tuples p1 p2 (by omega) (arr_items (items_eq f r r' r1 r2 ok)) ?_
        rw [List.size_toArray, List.size_toArray, l1, l2, pairE_all]; exact q
    | _ => cases ok
  | @dk a ks es h r =>
    cases rx
    cases e with
    | dct es' =>
      obtain ⟨b, rfl⟩ : ∃ b, y = .ref b := by cases hy <;> exact ⟨_, rfl⟩
      cases ry
      simp only [Bool.and_eq_true, Bool.or_eq_true, bne_iff_ne, ne_eq] at ok
      exact ⟨a, b, rfl, rfl, rfl, rfl, fun E Q q => dicts_run I hu f (.dk h r) hy ok.1 (fun hl => ok.2.resolve_left (fun z => z hl)) E Q q, fun z => absurd rfl (z es)⟩
    | _ => cases ok
  | @dt a ks es h r =>
    cases rx
    cases e with
    | dct es' =>
      obtain ⟨b, rfl⟩ : ∃ b, y = .ref b := by cases hy <;> exact ⟨_, rfl⟩
      cases ry
      simp only [Bool.and_eq_true, Bool.or_eq_true, bne_iff_ne, ne_eq] at ok
      exact ⟨a, b, rfl, rfl, rfl, rfl, fun E Q q => dicts_run I hu f (.dt h r) hy ok.1 (fun hl => ok.2.resolve_left (fun z => z hl)) E Q q, fun z => absurd rfl (z es)⟩
    | _ => cases ok
  | _ => cases ok
theorem eq_run (I : Inv X pins σ H s) : ∀ (n : Nat) (A : Around), A.units + (n + 1) < cLine → ∀ {x y : V} {v u : Value} {d e : D}, okE n d e = true → RR H x d → RR H y e → RelV x v → RelV y u → EqIn X.prog X.w A s v u (eqv d e)
  | 0, A, hu, x, y, v, u, d, e, ok, hx, hy, rx, ry => by
    unfold okE at ok
    rw [Bool.and_eq_true, Bool.and_eq_true, decide_eq_true_eq] at ok
    obtain ⟨⟨p1, p2⟩, p3⟩ := ok
    obtain ⟨as, q1⟩ := hx.reads I.hok p1 rx
    obtain ⟨bs, q2⟩ := hy.reads I.hok p2 ry
    rw [← toP_eqv p1 p2]
    exact (PySem.SeqAt.eqAt_plain _ _ A s v u as bs q1 q2 (toP_plain p1) (toP_plain p2) (by unfold plMin at p3; omega)).inModel X.prog X.w
  | n + 1, A, hu, x, y, v, u, d, e, ok, hx, hy, rx, ry => by
    unfold okE at ok
    rw [Bool.or_eq_true] at ok
    rcases ok with ok | ok
    · rw [Bool.and_eq_true, Bool.and_eq_true, decide_eq_true_eq] at ok
      obtain ⟨⟨p1, p2⟩, p3⟩ := ok
      obtain ⟨as, q1⟩ := hx.reads I.hok p1 rx
      obtain ⟨bs, q2⟩ := hy.reads I.hok p2 ry
      rw [← toP_eqv p1 p2]
      exact (PySem.SeqAt.eqAt_plain _ _ A s v u as bs q1 q2 (toP_plain p1) (toP_plain p2) (by unfold plMin at p3; omega)).inModel X.prog X.w
    · obtain ⟨a, b, rfl, rfl, rfl, rfl, q, _⟩ := step_eq I (A := A) (by omega) (eq_run I n A.in1 (by show A.units + 1 + (n + 1) < cLine; omega)) ok hx hy rx ry
      by_cases e1 : a = b
      · subst e1
        cases RR.det hx hy
        rw [RR.refl I.hok hx]
        exact (EqAt.same _).inModel X.prog X.w
      · exact EqIn.of_refs e1 q
end
/-! ### ==, != of data -/
def rEqD : R2D := fun d e S R => ∃ d' e', Un S d d' ∧ Un S e e' ∧ okE 40 d' e' = true ∧ R (.bl (eqv d' e')) S
def rNeD : R2D := fun d e S R => ∃ d' e', Un S d d' ∧ Un S e e' ∧ okE 40 d' e' = true ∧ (plD d' && plD e' || !(match d' with | .dct _ => true | _ => false)) = true ∧ R (.bl (!eqv d' e')) S
section
variable {X : Cx}
theorem od_eq (hu : X.A.units + 64 < cLine) : OpD X (compareOp .Eq) rEqD := by
  intro B pins s σ H S G x y v u d e R I A hx hy rx ry q
  obtain ⟨d', e', u1, u2, ok, q⟩ := q
  have hx' := u1.rr A.own hx
  have hy' := u2.rr A.own hy
  have fin : EP X pins σ (QL X.K B G σ H S R) (.bool (eqv d' e')) s := ⟨V.bl _, H, I, rfl, QL.here A q (.bl _)⟩
  unfold okE at ok
  rw [Bool.or_eq_true] at ok
  rcases ok with ok | ok
  · rw [Bool.and_eq_true, Bool.and_eq_true, decide_eq_true_eq] at ok
    obtain ⟨⟨p1, p2⟩, p3'⟩ := ok
    have p3 : plMin d' e' ≤ 40 := p3'
    obtain ⟨as, q1⟩ := hx'.reads I.hok p1 rx
    obtain ⟨bs, q2⟩ := hy'.reads I.hok p2 ry
    refine PySem.SeqAt.eq_plain q1 q2 (toP_plain p1) (toP_plain p2) (by unfold plMin at p3; omega) ?_
    rw [toP_eqv p1 p2]; exact fin
  · obtain ⟨a, b, rfl, rfl, rfl, rfl, q', _⟩ := step_eq I (A := X.A) (by omega) (eq_run I 39 X.A.in1 (by show X.A.units + 1 + 40 < cLine; omega)) ok hx' hy' rx ry
    exact q' _ _ fin
theorem od_ne (hu : X.A.units + 64 < cLine) : OpD X (compareOp .NotEq) rNeD := by
  intro B pins s σ H S G x y v u d e R I A hx hy rx ry q
  obtain ⟨d', e', u1, u2, ok, nd, q⟩ := q
  have hx' := u1.rr A.own hx
  have hy' := u2.rr A.own hy
  have fin : EP X pins σ (QL X.K B G σ H S R) (.bool (!eqv d' e')) s := ⟨V.bl _, H, I, rfl, QL.here A q (.bl _)⟩
  unfold okE at ok
  rw [Bool.or_eq_true] at ok
  rcases ok with ok | ok
  · rw [Bool.and_eq_true, Bool.and_eq_true, decide_eq_true_eq] at ok
    obtain ⟨⟨p1, p2⟩, p3'⟩ := ok
    have p3 : plMin d' e' ≤ 40 := p3'
    obtain ⟨as, q1⟩ := hx'.reads I.hok p1 rx
    obtain ⟨bs, q2⟩ := hy'.reads I.hok p2 ry
    refine PySem.SeqAt.ne_plain q1 q2 (toP_plain p1) (toP_plain p2) (by unfold plMin at p3; omega) ?_
    rw [toP_eqv p1 p2]; exact fin
  · obtain ⟨a, b, rfl, rfl, rfl, rfl, _, q'⟩ := step_eq I (A := X.A) (by omega) (eq_run I 39 X.A.in1 (by show X.A.units + 1 + 40 < cLine; omega)) ok hx' hy' rx ry
    refine q' (fun z ez => ?_) _ _ fin
    subst ez
    simp [plD] at nd
end
end DL
namespace DL
open PySem PySem.Spec PyProof.Rows L2
open PySem.W (EachIs AllAlike Sortable dataLe)
/-! ### sorted -/
structure SortOk (ds : List D) : Prop where
  pl : ∀ d ∈ ds, plD d = true
  like : AllAlike (ds.map toP)
  kind : Sortable (ds.map toP)
  deep : ∀ d ∈ ds, (toP d).depth ≤ 40
noncomputable def sortDs (ds : List D) : List D := ds.mergeSort (dataLe false toP)
theorem each_of {K : PySem.W.Frag} {H : Hp} {S : Own} : ∀ {xs : List V} {us : List Value} {ds : List D}, Vals xs us → Reps K H S xs ds → EachIs (fun u d => ∃ x, RelV x u ∧ Rep K H S x d) us ds
  | _, _, _, .nil, .nil => .nil
  | _, _, _, .cons a b, .cons h r => .cons ⟨_, a, h⟩ (each_of b r)
theorem of_each {K : PySem.W.Frag} {H : Hp} {S : Own} : ∀ {us : List Value} {ds : List D}, EachIs (fun u d => ∃ x, RelV x u ∧ Rep K H S x d) us ds → ∃ xs, Vals xs us ∧ Reps K H S xs ds
  | _, _, .nil => ⟨[], .nil, .nil⟩
  | _, _, .cons ⟨x, a, h⟩ r => let ⟨xs, b, q⟩ := of_each r; ⟨x :: xs, .cons a b, .cons h q⟩
theorem plD_noref : ∀ {d : D}, plD d = true → noref d = true := by
  intro d
  have go : (∀ d, plD d = true → noref d = true) ∧ (∀ ds, plDs ds = true → norefs ds = true) := by
    refine ⟨fun d => ?_, fun ds => ?_⟩
    · exact D.rec (motive_1 := fun d => plD d = true → noref d = true) (motive_2 := fun ds => plDs ds = true → norefs ds = true) (motive_3 := fun _ => True) (motive_4 := fun _ => True)
        (fun _ => rfl) (fun _ _ => rfl) (fun _ _ => rfl) (fun _ _ => rfl) (fun _ h => nomatch h) (fun _ ih h => ih h) (fun _ ih h => ih h) (fun _ _ h => nomatch h) (fun _ h => nomatch h)
        (fun _ => rfl) (fun a b ia ib h => by unfold plDs at h; rw [Bool.and_eq_true] at h; unfold norefs; rw [ia h.1, ib h.2]; rfl) trivial (fun _ _ _ _ => trivial) (fun _ _ _ _ => trivial) d
    · induction ds with
      | nil => intro _; rfl
      | cons a b ib =>
        intro h
        unfold plDs at h
        rw [Bool.and_eq_true] at h
        unfold norefs
        rw [ib h.2]
        exact D.rec (motive_1 := fun d => plD d = true → (noref d && true) = true) (motive_2 := fun ds => plDs ds = true → norefs ds = true) (motive_3 := fun _ => True) (motive_4 := fun _ => True)
          (fun _ => rfl) (fun _ _ => rfl) (fun _ _ => rfl) (fun _ _ => rfl) (fun _ h => nomatch h) (fun _ ih h => by show (norefs _ && true) = true; rw [ih h]; rfl) (fun _ ih h => by show (norefs _ && true) = true; rw [ih h]; rfl) (fun _ _ h => nomatch h) (fun _ h => nomatch h)
          (fun _ => rfl) (fun a b ia ib h => by unfold plDs at h; rw [Bool.and_eq_true] at h; have := ia h.1; rw [Bool.and_true] at this; unfold norefs; rw [this, ib h.2]; rfl) trivial (fun _ _ _ _ => trivial) (fun _ _ _ _ => trivial) a h.1
  exact go.1 d
theorem each_reads {K : PySem.W.Frag} {P : Program} {w : World} {H : Hp} {S : Own} {h : Heap} (ok : HOk P w H h) : ∀ {us : List Value} {ds : List D}, EachIs (fun u d => ∃ x, RelV x u ∧ Rep K H S x d) us ds → (∀ d ∈ ds, plD d = true) → EachIs (fun u d => ∃ as, Reads h u (toP d) as) us ds
  | _, _, .nil, _ => .nil
  | _, _, .cons ⟨x, a, r⟩ q, p => .cons (RR.reads ok (r.rr (plD_noref (p _ List.mem_cons_self))) (p _ List.mem_cons_self) a) (each_reads ok q fun d m => p d (List.mem_cons_of_mem _ m))
theorem each_len {α β : Type} {R : α → β → Prop} : ∀ {xs : List α} {ys : List β}, EachIs R xs ys → xs.length = ys.length
  | _, _, .nil => rfl
  | _, _, .cons _ r => by rw [List.length_cons, List.length_cons, each_len r]
def rSortedD : RCall
  | [d], S, R => ∃ ds, (lstOf S d = some ds ∨ ∃ es, dicOf S d = some es ∧ (es.all fun p => !tupB p.1) = true ∧ ds = es.map (·.1)) ∧ SortOk ds ∧ R (.lst (sortDs ds)) S
  | _, _, _ => False
section
variable {X : Cx}
theorem sort_list (hu : X.A.units + 64 < cLine) {B : Bs} {pins : List (Addr × Obj)} {s : Shared} {σ : St} {H : Hp} {S : Own} {G : DG} {a : Addr} {vs : List V} {ds : List D} {R : DVK} (I : Inv X pins σ H s) (A : At X.K B H S G σ)
    (h : Rd H a (.lst vs)) (r : Reps X.K H (ov B S) vs ds) (ok : SortOk ds) (q : R (.lst (sortDs ds)) S) : wpAny (model X.prog X.w) X.A (call (.builtin "sorted") [.ref a]) (EP X pins σ (QL X.K B G σ H S R)) X.xe s := by
  obtain ⟨z, its, n, vr, hg⟩ := (show ObjOk X.prog X.w H s.heap a (.lst vs) from rd_of I.hok h)
  have e := each_of vr r
  have ln : ds.length ≤ sizeLine := by rw [← r.length]; exact z
  refine PySem.W.sorted_data (bs := ds) (enc := toP) ⟨_, hg, rfl, n, rfl⟩ e (each_reads I.hok e ok.pl) ok.like ok.kind ln (fun d m => by have := ok.deep d m; omega) fun out lo eo => ?_
  obtain ⟨xs, v2, r2⟩ := of_each eo
  obtain ⟨c, hc⟩ := sortedAll_at s.heap its (List.toArray out)
  have hp : H (s.heap.objs.size + 1) = none := I.hok.fresh (Nat.le_succ _)
  refine ⟨.ref (s.heap.objs.size + 1), upd H (s.heap.objs.size + 1) (.lst xs), I.laid (t' := s.toks) (fun b u e => sortedAll_old e) (Nat.le_succ _) ⟨by rw [v2.length, lo]; exact ln, out, c, v2, by simpa [seqObj] using hc⟩, rfl, ?_⟩
  exact QL.laid A hp q (.lst (lstAt_new (A.own.free hp)) (r2.fr (fr_laid hp)))
theorem keys_reps {K : PySem.W.Frag} {H : Hp} {S : Own} : ∀ {kvs : List (Key × V)} {es : List (D × D)}, RepK K H S kvs es → Reps K H S (kvs.map fun p => kV p.1) (es.map (·.1))
  | _, _, .nil => .nil
  | _, _, .cons (k := k) _ r => .cons (by cases k with | inl i => exact .int i | inr x => exact .str x) (keys_reps r)
theorem sort_dict (hcalm : X.calm = true) (hu : X.A.units + 64 < cLine) {B : Bs} {pins : List (Addr × Obj)} {s : Shared} {σ : St} {H : Hp} {S : Own} {G : DG} {a : Addr} {kvs : List (Key × V)} {es : List (D × D)} {R : DVK} (I : Inv X pins σ H s) (A : At X.K B H S G σ)
    (hd : kvs.length ≤ sizeLine ∧ (a == sysModules) = false ∧ ∃ vs, KV kvs vs ∧ s.heap.DictOf (mixKind X.prog X.w) a vs) (r : RepK X.K H (ov B S) kvs es) (ok : SortOk (es.map (·.1))) (q : R (.lst (sortDs (es.map (·.1)))) S) : wpAny (model X.prog X.w) X.A (call (.builtin "sorted") [.ref a]) (EP X pins σ (QL X.K B G σ H S R)) X.xe s := by
  obtain ⟨z, lo, vs, rel, dd⟩ := hd
  obtain ⟨ep, hat⟩ := dd.dictAt
  have hl : vs.length = kvs.length := rel.length.symm
  have h16 : vs.length ≤ sizeLine := by rw [hl]; exact z
  refine Calls.call_function_entry PyProof.Rows.kind_sorted PyProof.Rows.plain_sorted PyProof.Rows.entry_sorted (PyProof.Rows.args_sorted1 _) ?_
  unfold Builtin.«sorted»
  refine wpAny_bind (m := checkCount "sorted" 1 1 _) (wpAny_pure ?_)
  refine wpAny_bind (PySem.W.kdu_collect (A := X.A.in1) (PySem.W.kdl_dict (knd := mixKind X.prog X.w) (kvs := vs) (ep := ep) lo) (I.ok.hd hcalm) hat h16 fun h' tk acc hk hacc => ?_)
  have vr : Vals (kvs.map fun p => kV p.1) acc.toList := by
    have := keys_at (vs := vs) (by rw [Array.length_toList]; exact hacc.1) fun j v e => hacc.2 j v (by rw [← Array.getElem?_toList]; exact e)
    have ek : (kvs.map fun p => kV p.1) = vs.map fun p => kV p.1 := by
      have e := congrArg (List.map kV) (KV.keys rel)
      rwa [List.map_map, List.map_map] at e
    rw [ek]; exact this
  have I1 : Inv X pins σ H { s with heap := h', toks := tk } := I.kept hk
  have e := each_of vr (keys_reps r)
  have lk : acc.toList.length = (es.map (·.1)).length := each_len e
  have ln : (es.map (·.1)).length ≤ sizeLine := by rw [List.length_map, ← r.length]; exact z
  refine wpAny_bind (wpAny_newList ?_ (by rw [lk]; exact ln))
  have hoL : (h'.push (seqObj "list" acc.toList.toArray 0)).get? h'.objs.size = some (seqObj "list" acc.toList.toArray 0) := Heap.get?_push_size _ rfl
  show wpAny _ _ _ _ _ { s with heap := h'.push (seqObj "list" acc.toList.toArray 0), toks := tk }
  have er : EachIs (fun u d => ∃ as, Reads (h'.push (seqObj "list" acc.toList.toArray 0)) u (toP d) as ∧ h'.objs.size ∉ as) acc.toList (es.map (·.1)) := by
    have key : ∀ {us : List Value} {ds : List (D × D)} {kvs : List (Key × V)}, RepK X.K H (ov B S) kvs ds → Vals (kvs.map fun p => kV p.1) us → EachIs (fun u d => ∃ as, Reads (h'.push (seqObj "list" acc.toList.toArray 0)) u (toP d) as ∧ h'.objs.size ∉ as) us (ds.map (·.1)) := by
      intro us ds kvs r
      induction ds generalizing us kvs with
      | nil => intro v; cases r; cases v; exact .nil
      | cons p ps ih =>
        intro v
        cases r with
        | @cons k _ _ _ _ _ r =>
          obtain ⟨u, ws, rfl, hu1, hv1⟩ := vals_cons v
          refine .cons ?_ (ih r hv1)
          cases k with
          | inl i => obtain ⟨t, rfl⟩ := hu1; exact ⟨[], .int i t, by simp⟩
          | inr x => obtain ⟨t, rfl⟩ := hu1; exact ⟨[], .str x t, by simp⟩
    exact key r vr
  refine wpAny_bind (wpAny_holding (PySem.W.list_sort_data (s := { s with heap := h'.push (seqObj "list" acc.toList.toArray 0), toks := tk }) (bs := es.map (·.1)) (enc := toP) hoL e er ok.like ok.kind ln (fun d m => by have := ok.deep d m; show X.A.units + 1 + 1 + _ < _; omega) fun out lo2 eo => ?_))
  obtain ⟨xs, v2, r2⟩ := of_each eo
  obtain ⟨e', he'⟩ := PyProof.Rows.sortedHeap_at (vs := acc.toList) (out := List.toArray out) hoL
  have hp : H h'.objs.size = none := I1.hok.fresh (Nat.le_refl _)
  refine wpAny_pure ⟨_, rfl, .ref h'.objs.size, upd H h'.objs.size (.lst xs), I1.laid (t' := tk) (fun b u e => ?_) (Nat.le_refl _) ⟨by rw [v2.length, lo2]; exact ln, out, e', v2, by simpa [seqObj] using he'⟩, rfl, ?_⟩
  · have hb : b < h'.objs.size := Heap.lt_size e
    rw [PyProof.Rows.sortedHeap_old (Nat.ne_of_lt hb) (by rw [size_push']; exact Nat.lt_succ_of_lt hb)]
    exact Heap.get?_push_of_some _ e
  · exact QL.laid A hp q (.lst (lstAt_new (A.own.free hp)) (r2.fr (fr_laid hp)))
theorem cd_sorted (hcalm : X.calm = true) (hu : X.A.units + 64 < cLine) : CallD X (.builtin "sorted") rSortedD := by
  intro B pins s σ H S G xs us ds R I A hx rx q
  unfold rSortedD at q
  split at q
  · obtain ⟨x, rfl, h⟩ := reps1 hx
    obtain ⟨u, rfl, ru⟩ := vals1 rx
    obtain ⟨ds, e | ⟨es, e, ek, rfl⟩, ok, q⟩ := q
    · obtain ⟨a, vs, rfl, hl, r⟩ := lstOf_at A.own h e
      cases ru
      exact sort_list hu I A hl r ok q
    · obtain ⟨a, rfl, hd⟩ := dicOf_at A.own h e
      cases ru
      rcases hd with ⟨kvs, hd, r⟩ | ⟨kvs, hd, r⟩
      · exact sort_dict hcalm hu I A (dk_rd I.hok hd) r ok q
      · cases r with
        | nil =>
          obtain ⟨hz, dd⟩ := empty_K I hd
          exact sort_dict (kvs := []) (es := []) hcalm hu I A ⟨Nat.zero_le _, hz, [], .nil, dd⟩ .nil ok q
        | cons _ _ => rw [List.all_cons] at ek; exact absurd ek (by simp [tupB])
  · exact q.elim
end
end DL
namespace DL
open PySem PySem.Spec PyProof.Rows L2
open PySem.W (EachIs AllAlike Sortable dataLe)
/-! ### sorted(d.items()) -/
mutual
theorem reads_in {h : Heap} : ∀ {v : Value} {d : PyData} {as : List Addr}, Reads h v d as → ∀ a ∈ as, a < h.objs.size
  | _, _, _, .none, _, m => nomatch m
  | _, _, _, .bool _, _, m => nomatch m
  | _, _, _, .int _ _, _, m => nomatch m
  | _, _, _, .str _ _, _, m => nomatch m
  | _, _, _, .list g _ _ r, a, m => by
    rcases List.mem_cons.mp m with e | m
    · rw [e]; exact Heap.lt_size g
    · exact reads_ins r a m
  | _, _, _, .tuple g _ _ r, a, m => reads_ins r a m
  | _, _, _, .dict g _ _ r q, a, m => by
    rcases List.mem_append.mp m with m | m
    · rcases List.mem_cons.mp m with e | m
      · rw [e]; exact Heap.lt_size g
      · exact reads_ins r a m
    · exact reads_ins q a m
theorem reads_ins {h : Heap} : ∀ {vs : List Value} {ds : List PyData} {as : List Addr}, ReadsAll h vs ds as → ∀ a ∈ as, a < h.objs.size
  | _, _, _, .nil, _, m => nomatch m
  | _, _, _, .cons r q, a, m => by
    rcases List.mem_append.mp m with m | m
    · exact reads_in r a m
    · exact reads_ins q a m
end
def itemsD (es : List (D × D)) : List D := es.map fun q => .tup [q.1, q.2]
section
variable {X : Cx} {pins : List (Addr × Obj)} {σ : St} {H : Hp} {T : Own} {s : Shared}
abbrev EnR (p : V × V) (en : DictEntry) : Prop := RelV p.1 en.key ∧ RelV p.2 en.val
abbrev EnD (K : PySem.W.Frag) (H : Hp) (T : Own) (p : V × V) (q : D × D) : Prop := Rep K H T p.1 q.1 ∧ Rep K H T p.2 q.2
theorem own_notup {K : PySem.W.Frag} (W : Owns K H T) {q : Addr} {xs : List V} (h : H q = some (.tup xs)) : T q = none := by
  cases e : T q with
  | none => rfl
  | some o =>
    have z := W q o e
    cases o with
    | lst ds => obtain ⟨_, h1, _⟩ := z; rw [h] at h1; cases h1
    | dct ds => rcases z with ⟨_, h1, _⟩ | ⟨_, h1, _⟩ <;> (rw [h] at h1; cases h1)
    | ins C fs => obtain ⟨_, _, h1, _⟩ := z; rw [h] at h1; cases h1
    | dcz z' ds => have h1 := z.1; rw [h] at h1; cases h1
theorem rep_kV (K : PySem.W.Frag) (H : Hp) (T : Own) (k : Key) : Rep K H T (kV k) (keyD k) := by
  cases k with
  | inl i => exact .int i
  | inr x => exact .str x
theorem reps_kV (K : PySem.W.Frag) (H : Hp) (T : Own) : ∀ ks : List Key, Reps K H T (ks.map kV) (ks.map keyD)
  | [] => .nil
  | k :: ks => .cons (rep_kV K H T k) (reps_kV K H T ks)
theorem entK {P : Program} {w : World} : ∀ {ents : List DictEntry} {vs : List (Key × Value)} {kvs : List (Key × V)} {es : List (D × D)} {K : PySem.W.Frag}, PySem.Pairs (mixKind P w) ents vs → KV kvs vs → RepK K H T kvs es → Paired EnR (kvs.map fun p => (kV p.1, p.2)) ents ∧ Paired (EnD K H T) (kvs.map fun p => (kV p.1, p.2)) es
  | _, _, _, _, _, .nil, .nil, .nil => ⟨.nil, .nil⟩
  | _, _, _, _, _, .cons hk hv r, .cons h t, .cons hd rd => by
    obtain ⟨a, b⟩ := entK r t rd
    obtain ⟨h1, h2⟩ := h
    subst h1
    exact ⟨.cons ⟨relV_key hk, by rw [hv]; exact h2⟩ a, .cons ⟨rep_kV _ _ _ _, hd⟩ b⟩
theorem entT {P : Program} {w : World} (W : ∀ {q : Addr} {xs : List V}, H q = some (.tup xs) → T q = none) : ∀ {xs : List (List Key × Addr × Value)} {kvs : List (List Key × V)} {es : List (D × D)} {K : PySem.W.Frag}, KT H kvs xs → RepT K H T kvs es → Paired EnR ((kvs.zip xs).map fun p => (V.ref p.2.2.1, p.1.2)) (xs.map (entryOfKey (tupleKind (mixKind P w)))) ∧ Paired (EnD K H T) ((kvs.zip xs).map fun p => (V.ref p.2.2.1, p.1.2)) es
  | _, _, _, _, .nil, .nil => ⟨.nil, .nil⟩
  | _, _, _, _, .cons h t, .cons hd rd => by
    obtain ⟨a, b⟩ := entT W t rd
    obtain ⟨h1, h2, h3⟩ := h
    refine ⟨.cons ⟨rfl, h3⟩ a, .cons ⟨?_, hd⟩ b⟩
    exact .tup ⟨h2, W h2⟩ (reps_kV _ _ _ _)
theorem dic_entries (I : Inv X pins σ H s) (W : Owns X.K H T) {a : Addr} {es : List (D × D)} (h : DicAt X.K H T a es) :
    (a == sysModules) = false ∧ ∃ (arr : Array DictEntry) (ep : Nat) (prs : List (V × V)), DT.Raw s.heap a arr ep ∧ arr.size ≤ sizeLine ∧ Paired EnR prs arr.toList ∧ Paired (EnD X.K H T) prs es := by
  rcases h with ⟨kvs, h, r⟩ | ⟨kvs, h, r⟩
  · obtain ⟨z, lo, vs, rel, o, arr, ep, g1, g2, g3, _, g4, _⟩ := dk_rd I.hok h
    obtain ⟨a1, a2⟩ := entK g4 rel r
    refine ⟨lo, arr, ep, _, ⟨o, g1, g2, g3⟩, ?_, a1, a2⟩
    have h1 : kvs.length = arr.size := by have := Paired.length a1; simpa using this
    omega
  · obtain ⟨z, lo, xs, rel, o, arr, ep, g1, g2, g3, g4, _⟩ := dt_rd I.hok h
    obtain ⟨a1, a2⟩ := entT (P := X.prog) (w := X.w) (own_notup W) rel r
    rw [← g4] at a1
    refine ⟨lo, arr, ep, _, ⟨o, g1, g2, g3⟩, ?_, a1, a2⟩
    have l1 := Paired.length rel
    have l2 := size_of_entries g4
    omega
theorem paired_get1 {α β : Type} {F : α → β → Prop} : ∀ {xs : List α} {ys : List β} {j : Nat} {x : α}, Paired F xs ys → xs[j]? = some x → ∃ y, ys[j]? = some y ∧ F x y
  | _, _, _, _, .nil, h => by simp at h
  | _, _, 0, _, .cons f _, h => by cases (show some _ = some _ from h); exact ⟨_, rfl, f⟩
  | _, _, j + 1, _, .cons _ r, h => paired_get1 (j := j) r h
theorem paired_get2 {α β : Type} {F : α → β → Prop} : ∀ {xs : List α} {ys : List β} {j : Nat} {y : β}, Paired F xs ys → ys[j]? = some y → ∃ x, xs[j]? = some x ∧ F x y
  | _, _, _, _, .nil, h => by simp at h
  | _, _, 0, _, .cons f _, h => by cases (show some _ = some _ from h); exact ⟨_, rfl, f⟩
  | _, _, j + 1, _, .cons _ r, h => paired_get2 (j := j) r h
theorem each_at {α β : Type} {R : α → β → Prop} : ∀ {xs : List α} {ys : List β}, xs.length = ys.length → (∀ (j : Nat) (x : α) (y : β), xs[j]? = some x → ys[j]? = some y → R x y) → EachIs R xs ys
  | [], [], _, _ => .nil
  | [], _ :: _, h, _ => by simp at h
  | _ :: _, [], h, _ => by simp at h
  | x :: xs, y :: ys, h, f => .cons (f 0 x y rfl rfl) (each_at (by simpa using h) fun j a b h1 h2 => f (j + 1) a b h1 h2)
theorem each_mem {α β : Type} {R R' : α → β → Prop} : ∀ {xs : List α} {ys : List β}, EachIs R xs ys → (∀ x ∈ xs, ∀ y, R x y → R' x y) → EachIs R' xs ys
  | _, _, .nil, _ => .nil
  | _, _, .cons h r, f => .cons (f _ List.mem_cons_self _ h) (each_mem r fun x m y => f x (List.mem_cons_of_mem _ m) y)
def rSortItems (K : PySem.W.Frag) : List V → Hp → VK → Prop := fun vs H Q => ∃ (p a : Addr) (T : Own) (es : List (D × D)), vs = [.ref p] ∧ H p = some (L2.DX.itemsO p a) ∧ Owns K H T ∧ DicAt K H T a es ∧ SortOk (itemsD es) ∧
  ∀ (H' : Hp) (l : Addr) (xs : List V), (∀ b o, H b = some o → H' b = some o) → H l = none → H' l = some (.lst xs) → Reps K H' T xs (sortDs (itemsD es)) → Q (.ref l) H'
theorem fr_more {H H' : Hp} {T : Own} (g : ∀ b o, H b = some o → H' b = some o) : Fr H T H' T := fun a o h s => ⟨s, .inl (g a o h)⟩
theorem owns_more {K : PySem.W.Frag} {H H' : Hp} {T : Own} (W : Owns K H T) (g : ∀ b o, H b = some o → H' b = some o) : Owns K H' T := fun a o e => by
  have z := W a o e
  obtain ⟨u, hu⟩ := z.there
  exact z.fr (fr_more g) ((g a u hu).trans hu.symm)
theorem call_sortItems (hc : X.calm = true) (hu : X.A.units + 64 < cLine) : CallR X (.builtin "sorted") (rSortItems X.K) := by
  intro pins s σ H xs us Q I r h
  obtain ⟨p, a, T, es, rfl, hp, W, hd, ok, q⟩ := h
  obtain rfl := Vals.ref1 r
  have view : s.heap.IsItemsView p a := (show ObjOk X.prog X.w H s.heap p (L2.DX.itemsO p a) from I.hok p _ hp).1
  obtain ⟨lo, arr, ep, prs, raw, sz, pe, pd⟩ := dic_entries I W hd
  have hh : X.A.handled = none := I.ok.hd hc
  refine DT.sortedI (es := arr) (ep := ep) hh view raw sz fun h' tk as hk hlt hl hG => ?_
  have nd : as.Nodup := List.Pairwise.imp (fun h => Nat.ne_of_lt h) hG.rise
  have lp : prs.length = arr.size := by have := Paired.length pe; rwa [Array.length_toList] at this
  have le : es.length = prs.length := (Paired.length pd).symm
  have pr : ∀ (j : Nat) (b : Addr), as[j]? = some b → ∃ (pv : V × V) (q : D × D) (en : DictEntry), prs[j]? = some pv ∧ es[j]? = some q ∧ EnR pv en ∧ EnD X.K H T pv q ∧ h'.get? b = some { cls := .type "tuple", data := .seq #[en.key, en.val] } := by
    intro j b hj
    obtain ⟨en, he, hg⟩ := hG.pairs j b hj
    obtain ⟨pv, e1, f1⟩ := paired_get2 pe (by rw [Array.getElem?_toList]; exact he)
    obtain ⟨q, e2, f2⟩ := paired_get1 pd e1
    exact ⟨pv, q, en, e1, e2, f1, f2, hg⟩
  -- the sort's heap
  have hob : (h'.push { cls := .type "list", data := .seq (as.map Value.ref).toArray }).get? h'.objs.size = some (seqObj "list" (as.map Value.ref).toArray 0) := Heap.get?_push_size _ rfl
  have kb : ∀ b o, s.heap.get? b = some o → (h'.push { cls := .type "list", data := .seq (as.map Value.ref).toArray }).get? b = some o := fun b o e => Heap.get?_push_of_some _ (hk b o e)
  have ne0 : ∀ b o, h'.get? b = some o → b ≠ h'.objs.size := fun b o e => Nat.ne_of_lt (Heap.lt_size e)
  have ka : ∀ b o, h'.get? b = some o → (h'.push { cls := .type "list", data := .seq (as.map Value.ref).toArray }).get? b = some o := fun b o e => Heap.get?_push_of_some _ e
  generalize hh2 : h'.push { cls := .type "list", data := .seq (as.map Value.ref).toArray } = h2 at hob kb ka ⊢
  have li : (itemsD es).length = as.length := by unfold itemsD; rw [List.length_map]; omega
  have itj : ∀ {j : Nat} {q : D × D}, es[j]? = some q → (itemsD es)[j]? = some (.tup [q.1, q.2]) := fun {j q} e => by unfold itemsD; rw [List.getElem?_map, e]; rfl
  have asj : ∀ {j : Nat} {v : Value}, (as.map Value.ref)[j]? = some v → ∃ b, as[j]? = some b ∧ v = .ref b := fun {j v} e => by
    rw [List.getElem?_map] at e
    cases ea : as[j]? with
    | none => rw [ea] at e; exact nomatch e
    | some b => rw [ea] at e; exact ⟨b, rfl, (Option.some.inj e).symm⟩
  have e0 : EachIs (fun (u : Value) (d : D) => ∃ (j : Nat) (b : Addr) (q : D × D), u = .ref b ∧ as[j]? = some b ∧ es[j]? = some q ∧ d = .tup [q.1, q.2]) (as.map Value.ref) (itemsD es) := by
    refine each_at (by rw [List.length_map, li]) fun j x y hx hy => ?_
    obtain ⟨b, hb, rfl⟩ := asj hx
    obtain ⟨pv, q, en, _, e2, _⟩ := pr j b hb
    rw [itj e2] at hy
    exact ⟨j, b, q, rfl, hb, e2, (Option.some.inj hy).symm⟩
  have er : EachIs (fun u d => ∃ ws, Reads h2 u (toP d) ws ∧ h'.objs.size ∉ ws) (as.map Value.ref) (itemsD es) := by
    refine each_at (by rw [List.length_map, li]) fun j x y hx hy => ?_
    obtain ⟨b, hb, rfl⟩ := asj hx
    obtain ⟨pv, q, en, _, e2, f1, f2, hg⟩ := pr j b hb
    rw [itj e2] at hy
    cases (Option.some.inj hy)
    have pl := ok.pl _ (List.mem_of_getElem? (itj e2))
    have pl' : plDs [q.1, q.2] = true := pl
    unfold plDs at pl'
    rw [Bool.and_eq_true] at pl'
    have pl2 := pl'.2
    unfold plDs at pl2
    rw [Bool.and_eq_true] at pl2
    obtain ⟨w1, r1⟩ := RR.reads I.hok (f2.1.rr (plD_noref pl'.1)) pl'.1 f1.1
    obtain ⟨w2, r2⟩ := RR.reads I.hok (f2.2.rr (plD_noref pl2.1)) pl2.1 f1.2
    have lt1 := reads_in r1
    have lt2 := reads_in r2
    refine ⟨w1 ++ (w2 ++ []), .tuple (ka _ _ hg) rfl rfl (.cons (PyProof.Rows.Reads.keeps kb r1) (.cons (PyProof.Rows.Reads.keeps kb r2) .nil)), fun m => ?_⟩
    rcases List.mem_append.mp m with m | m
    · exact absurd (lt1 _ m) (Nat.not_lt.mpr (Nat.le_of_lt hlt))
    · rw [List.append_nil] at m; exact absurd (lt2 _ m) (Nat.not_lt.mpr (Nat.le_of_lt hlt))
  have ln : (itemsD es).length ≤ sizeLine := by rw [li]; omega
  refine PySem.W.list_sort_data (s := { s with heap := h2, toks := tk }) (bs := itemsD es) (enc := toP) hob e0 er ok.like ok.kind ln (fun d m => by have := ok.deep d m; show X.A.units + 1 + 1 + _ < _; omega) fun out lo2 eo => ?_
  show EP X pins σ Q (.ref h'.objs.size) { s with heap := sortedHeap h2 h'.objs.size (as.map Value.ref) (List.toArray out), toks := tk }
  have kF : ∀ b o, b ≠ h'.objs.size → h2.get? b = some o → (sortedHeap h2 h'.objs.size (as.map Value.ref) (List.toArray out)).get? b = some o := fun b o hb e => (PyProof.Rows.sortedHeap_old hb (Heap.lt_size e)).trans e
  have kS : ∀ b o, s.heap.get? b = some o → (sortedHeap h2 h'.objs.size (as.map Value.ref) (List.toArray out)).get? b = some o := fun b o e => kF b o (ne0 _ _ (hk b o e)) (kb b o e)
  obtain ⟨eF, heF⟩ := PyProof.Rows.sortedHeap_at (vs := as.map Value.ref) (out := List.toArray out) hob
  have I1 : Inv X pins σ H { s with heap := sortedHeap h2 h'.objs.size (as.map Value.ref) (List.toArray out), toks := tk } := I.kept (t' := tk) kS
  have hn0 : H h'.objs.size = none := I.hok.fresh (Nat.le_of_lt hlt)
  -- the list's items, by address
  have byv : ∀ {us : List Value} {ds : List D}, EachIs (fun (u : Value) (d : D) => ∃ (j : Nat) (b : Addr) (q : D × D), u = .ref b ∧ as[j]? = some b ∧ es[j]? = some q ∧ d = .tup [q.1, q.2]) us ds → ∃ bs : List Addr, us = bs.map Value.ref ∧ EachIs (fun (b : Addr) (d : D) => ∃ (j : Nat) (q : D × D), as[j]? = some b ∧ es[j]? = some q ∧ d = .tup [q.1, q.2]) bs ds := by
    intro us ds e
    induction e with
    | nil => exact ⟨[], rfl, .nil⟩
    | cons h _ ih =>
      obtain ⟨j, b, q, rfl, h2, h3, h4⟩ := h
      obtain ⟨bs, rfl, eb⟩ := ih
      exact ⟨b :: bs, rfl, .cons ⟨j, q, h2, h3, h4⟩ eb⟩
  obtain ⟨bs, eout, eb⟩ := byv eo
  subst eout
  have rv : Vals (bs.map V.ref) (bs.map Value.ref) := vals_maps (fun b : Addr => V.ref b) (fun b => Value.ref b) bs fun _ _ => rfl
  have lb : (bs.map V.ref).length ≤ sizeLine := by rw [List.length_map]; rw [List.length_map] at lo2; omega
  have I2 : Inv X pins σ (upd H h'.objs.size (.lst (bs.map V.ref))) { s with heap := sortedHeap h2 h'.objs.size (as.map Value.ref) (List.toArray (bs.map Value.ref)), toks := tk } :=
    I1.take (t' := tk) (fun b ob _ e => e) (I.fpOk (Nat.le_of_lt hlt) hn0) ⟨lb, _, eF, rv, heF⟩
  obtain ⟨H2, I3, g, qt⟩ := L2.DX.takeT (P := fun b vs => ∃ (j : Nat) (pv : V × V), as[j]? = some b ∧ prs[j]? = some pv ∧ vs = [pv.1, pv.2]) I as _ I2 nd fun b hb => by
    obtain ⟨j, hj⟩ := List.mem_iff_getElem?.mp hb
    obtain ⟨pv, q, en, e1, e2, f1, f2, hg⟩ := pr j b hj
    have hbl : s.heap.objs.size ≤ b := Nat.le_of_lt (hG.above b hb)
    refine ⟨hbl, ?_, [pv.1, pv.2], ⟨j, pv, hj, e1, rfl⟩, fun H3 => ⟨(by rw [sizeLine_eq]; show 2 ≤ 16777216; omega), [en.key, en.val], .cons f1.1 (.cons f1.2 .nil), ⟨_, kF _ _ (ne0 _ _ hg) (ka _ _ hg), rfl, 0, rfl⟩⟩⟩
    rw [upd_ne (ne0 _ _ hg)]
    exact I.hok.fresh hbl
  have gr : ∀ b o, H b = some o → H2 b = some o := fun b o e => g b o (by rw [upd_ne (ne_of_none e hn0)]; exact e)
  refine ⟨.ref h'.objs.size, H2, I3, rfl, q H2 h'.objs.size _ gr hn0 (g _ _ upd_same) ?_⟩
  have hb0 : ∀ b ∈ as, H b = none := fun b m => I.hok.fresh (Nat.le_of_lt (hG.above b m))
  have fin : ∀ {bs : List Addr} {ds : List D}, EachIs (fun (b : Addr) (d : D) => ∃ (j : Nat) (q : D × D), as[j]? = some b ∧ es[j]? = some q ∧ d = .tup [q.1, q.2]) bs ds → Reps X.K H2 T (bs.map V.ref) ds := by
    intro bs ds e
    induction e with
    | nil => exact .nil
    | @cons b d _ _ h _ ih =>
      obtain ⟨j, q, h1, h2', rfl⟩ := h
      refine .cons ?_ ih
      have mb := List.mem_of_getElem? h1
      obtain ⟨vs, ⟨i, pv, i1, i2, rfl⟩, hH⟩ := qt b mb
      have eij : j = i := (List.getElem?_inj (List.getElem?_eq_some_iff.mp h1).1 nd).mp (h1.trans i1.symm)
      subst eij
      obtain ⟨pv', q', en, e1, e2, f1, f2, hg⟩ := pr j b h1
      rw [i2] at e1
      cases e1
      rw [h2'] at e2
      cases e2
      exact .tup ⟨hH, W.free (hb0 b mb)⟩ (.cons (f2.1.fr (fr_more gr)) (.cons (f2.2.fr (fr_more gr)) .nil))
  exact fin eb
end
end DL
namespace DL
open PySem PySem.Spec PyProof.Rows L2
/-! ### is None -/
def isNon : D → Bool
  | .non => true
  | _ => false
def rIsND : R2D := fun d e S R => e = .non ∧ R (.bl (isNon d)) S
def rNotND : R2D := fun d e S R => e = .non ∧ R (.bl (!isNon d)) S
theorem rep_isNon {K : PySem.W.Frag} {H : Hp} {S : Own} {x : V} {d : D} (h : Rep K H S x d) : decide (x = .non) = isNon d := by
  cases h <;> simp [isNon]
section
variable {X : Cx} {B : Bs}
theorem od_isN : OpD X (compareOp .Is) rIsND := by
  intro B pins s σ H S G x y v u d e R I A hx hy rx ry q
  obtain ⟨rfl, q⟩ := q
  cases hy
  exact op_isN pins s σ H x .non v u _ I rx ry ⟨rfl, QL.here A (by rw [rep_isNon hx]; exact q) (.bl _)⟩
theorem od_notN : OpD X (compareOp .IsNot) rNotND := by
  intro B pins s σ H S G x y v u d e R I A hx hy rx ry q
  obtain ⟨rfl, q⟩ := q
  cases hy
  exact op_notN pins s σ H x .non v u _ I rx ry ⟨rfl, QL.here A (by rw [rep_isNon hx]; exact q) (.bl _)⟩
/-- a built-in type by its name -/
theorem de_type (n : String) {x : Str} {pos : Pos} (hg : Gl X x) (hm : X.mg x = none) (hv : bootBuiltins x = some (.type n)) (hn : x ≠ "__name__" := by decide) (hd : (x == ("__debug__" : Str)) = false := by decide) : JE X B (.Name x pos) (dC (.ty n)) :=
  JE.const (pe_bltn (v := .ty n) hg hm hv rfl hn hd) fun _ _ _ => .ty n
/-! ### isinstance -/
def tyX (S : Own) : D → Option String
  | .non => some "NoneType"
  | .bl _ => some "bool"
  | .int _ => some "int"
  | .str _ => some "str"
  | .tup _ => some "tuple"
  | .lst _ => some "list"
  | .dct _ => some "dict"
  | .ref a => match S a with
    | some (.lst _) => some "list"
    | some (.dct _) => some "dict"
    | some (.dcz _ _) => some "dict"
    | _ => none
  | _ => none
theorem kit_d {pins : List (Addr × Obj)} {σ : St} {H : Hp} {S Z : Own} {s : Shared} {x : V} {u : Value} {d : D} {t : String} (I : Inv X pins σ H s) (W : Owns X.K H (over S Z)) (h : Rep X.K H (over S Z) x d) (r : RelV x u) (e : tyX S d = some t) :
    ∃ P : Heap → Prop, PySem.W.KitX X.K u (.type t) P ∧ P s.heap ∧ u ≠ .builtin "__main__.__loader__#opaque" := by
  have lst : ∀ {a vs}, x = .ref a → Rd H a (.lst vs) → ∃ P : Heap → Prop, PySem.W.KitX X.K u (.type "list") P ∧ P s.heap ∧ u ≠ .builtin "__main__.__loader__#opaque" := fun {a vs} ea hr => by
    subst ea; cases r
    obtain ⟨its, _, o, g1, g2, _⟩ := lst_is I hr
    exact ⟨_, PySem.W.kitx_list, ⟨o, g1, g2⟩, fun z => nomatch z⟩
  have dic : ∀ {a es}, x = .ref a → DicAt X.K H (over S Z) a es → ∃ P : Heap → Prop, PySem.W.KitX X.K u (.type "dict") P ∧ P s.heap ∧ u ≠ .builtin "__main__.__loader__#opaque" := fun {a es} ea hd => by
    subst ea; cases r
    obtain ⟨_, o, g1, g2⟩ := hd.obj I
    exact ⟨_, PySem.W.kitx_dict, ⟨o, g1, g2.1⟩, fun z => nomatch z⟩
  cases d with
  | non => cases h; cases r; cases e; exact ⟨_, PySem.W.kitx_none, True.intro, fun z => nomatch z⟩
  | bl b => cases h; cases r; cases e; exact ⟨_, PySem.W.kitx_bool, True.intro, fun z => nomatch z⟩
  | int b => cases h; obtain ⟨t, rfl⟩ := r; cases e; exact ⟨_, PySem.W.kitx_int, True.intro, fun z => nomatch z⟩
  | str b => cases h; obtain ⟨t, rfl⟩ := r; cases e; exact ⟨_, PySem.W.kitx_str, True.intro, fun z => nomatch z⟩
  | tup ds =>
    cases e
    obtain ⟨a, vs, rfl, ha, _⟩ := rep_tup h
    cases r
    obtain ⟨its, _, o, g1, g2, _⟩ := tup_is I ha.1
    exact ⟨_, PySem.W.kitx_tuple, ⟨o, g1, g2⟩, fun z => nomatch z⟩
  | lst ds => cases e; obtain ⟨a, vs, ea, ha, _⟩ := rep_lst h; exact lst ea ha.1
  | dct es => cases e; obtain ⟨a, ea, hd⟩ := DicAt.of_rep h; exact dic ea hd
  | ref a =>
    cases h
    cases hs : S a with
    | none => simp only [tyX, hs] at e; cases e
    | some o =>
      simp only [tyX, hs] at e
      cases o with
      | lst ds => cases e; obtain ⟨vs, h1, _⟩ := W a _ (over_some hs); exact lst rfl (.inl h1)
      | dct es => cases e; exact dic rfl (DicAt.of_own W (over_some hs))
      | dcz _ es => cases e; exact dic rfl (DicAt.of_ownZ W (over_some hs))
      | ins _ _ => cases e
  | _ => cases e
def instB (t n : String) : Bool := t == n || (t == "bool" && n == "int")
def tyNames : List String := ["NoneType", "bool", "int", "str", "tuple", "list", "dict"]
theorem kit_names : ∀ t ∈ tyNames, ∀ n ∈ tyNames, kitB t n = some (instB t n) := by decide +kernel
theorem tyX_mem {S : Own} {d : D} {t : String} (e : tyX S d = some t) : t ∈ tyNames := by
  cases d with
  | ref a =>
    cases hs : S a with
    | none => simp only [tyX, hs] at e; cases e
    | some o => simp only [tyX, hs] at e; cases o <;> cases e <;> decide
  | dct _ => cases e; decide
  | _ => cases e <;> decide
def rIsInst : RCall
  | [d, .ty n], S, R => ∃ t, tyX S d = some t ∧ n ∈ tyNames ∧ R (.bl (instB t n)) S
  | _, _, _ => False
theorem cd_isinst : CallD X (.builtin "isinstance") rIsInst := by
  intro B pins s σ H S G xs us ds R I A hx rx q
  unfold rIsInst at q
  split at q
  · obtain ⟨x, c, rfl, h1, h2⟩ := reps2 hx
    obtain ⟨t, ht, hn, q⟩ := q
    cases h2
    obtain ⟨u1, u2, rfl, r1, r2⟩ := vals2 rx
    cases r2
    obtain ⟨P, Z, p, hx⟩ := kit_d I A.own h1 r1 ht
    exact PySem.W.kia_one Z I.kIn p (kit_ty (kit_names _ (tyX_mem ht) _ hn)) hx fun tk => ⟨.bl _, H, I.tok tk, rfl, QL.here A q (.bl _)⟩
  · exact q.elim
end
/-! ### lists put together, in flight -/
def rCatO : R2D := fun d e S R => ∃ xs ys, lstOf S d = some xs ∧ lstOf S e = some ys ∧ xs.length + ys.length ≤ sizeLine ∧ ∀ p, S p = none → R (.ref p) (S.put p (.lst (xs ++ ys)))
section
variable {X : Cx} {B : Bs}
theorem od_catO : OpD X (binaryOp .Add) rCatO := by
  intro B pins s σ H S G x y v u d e R I A hx hy rx ry q
  obtain ⟨xs, ys, e1, e2, hz, q⟩ := q
  obtain ⟨a, vs, rfl, ha, r1⟩ := lstOf_at A.own hx e1
  obtain ⟨b, us, rfl, hb, r2⟩ := lstOf_at A.own hy e2
  refine op_catR pins s σ H _ _ v u _ I rx ry ⟨a, b, vs, us, rfl, rfl, ha, hb, by rw [r1.length, r2.length]; exact hz, fun p hp => ?_⟩
  exact QL.laidO A hp (q p (A.free hp).1) ⟨_, upd_same, (r1.append r2).fr (fr_laidO hp)⟩
/-! ### xs[::1], xs[::-1] -/
def rStepD (d e : D) (S : Own) (R : DVK) : Prop := ∃ ds, lstOf S d = some ds ∧ ((e = .int 1 ∧ R (.lst ds) S) ∨ (e = .int (-1) ∧ R (.lst ds.reverse) S))
def dStep (te tc : RE) : RE := fun G S R => te G S fun d S1 => dPart tc G S1 fun o S2 => ∃ i, o = some i ∧ rStepD d (.int i) S2 R
theorem pick_one (items : Array Value) : slicePick items none none (some 1) = items.toList.toArray := by
  have e := slicePick_from items 0 (Nat.zero_le _)
  have h : slicePick items none none (some 1) = slicePick items (some (0 : Nat)) none none := by
    unfold slicePick sliceBounds
    have z : max (0 : Int) (min 0 (items.size : Int)) = 0 := by omega
    simp [z]
  rw [h, e]; rfl
theorem de_step {e c : Expr} {te tc : RE} {p2 pos : Pos} (he : JE X B e te) (hc : JE X B c tc) : JE X B (.Subscript e (.Slice none none (some c) p2) pos) (dStep te tc) := by
  refine JE.mk fun pins s σ H S G R I A q => ?_
  refine Subscript_ (thn (he.run I A q) fun v s1 ⟨x, H1, I1, r1, d, S1, q1, f1, A1, h1⟩ => ?_)
  refine wpAny_Slice (thn (po_none.run pins s1 σ H1 (fun o H2 => o = none ∧ H2 = H1) I1 ⟨rfl, rfl⟩) fun vl s2 ⟨l, H2, I2, pl, el, e2⟩ => ?_)
  subst el e2
  refine thn (po_none.run pins s2 σ H2 (fun o H3 => o = none ∧ H3 = H2) I2 ⟨rfl, rfl⟩) fun vu s3 ⟨u, H3, I3, pu, eu, e3⟩ => ?_
  subst eu e3
  have ih : JO X B (some c) (dPart tc) := do_some hc
  refine thn (ih.run pins s3 σ H3 _ I3 ⟨G, S1, fun o S2 => ∃ i, o = some i ∧ rStepD d (.int i) S2 R, A1, q1, fun o H' h => h⟩) fun vs s4 ⟨o, H4, I4, ps, S4, ⟨i, eo, q4⟩, f4, A4⟩ => ?_
  subst eo
  obtain ⟨ds, el, q4⟩ := q4
  obtain ⟨a, xs, rfl, ha, r⟩ := lstOf_at A4.own (h1.fr f4) el
  cases r1
  have I5 : Inv X pins σ H4 { s4 with heap := s4.heap.push { cls := .type "slice", data := .fields #[vl, vu, vs] } } := I4.kept (t' := s4.toks) fun b ob q => Heap.get?_push_of_some _ q
  obtain ⟨its, rv, ht, hz⟩ := I5.list (show SqL X.K H4 a xs from .inl ha)
  have hlen := rv.length
  have hi : i = 1 ∨ i = -1 := by
    rcases q4 with ⟨e, _⟩ | ⟨e, _⟩
    · cases e; exact .inl rfl
    · cases e; exact .inr rfl
  show wpAny (model X.prog X.w) X.A (subscriptTail e (.Slice none none (some c) p2) (.ref a) (.ref s4.heap.objs.size)) (EP X pins σ (QL X.K B G σ H S R)) X.xe { s4 with heap := s4.heap.push { cls := .type "slice", data := .fields #[vl, vu, vs] } }
  refine tail_any (ops := [.ref a, .ref s4.heap.objs.size]) ht.isList.typeIs (PySem.slot_list_getitem.lookup) ?_ (by with_unfolding_all rfl)
  have fin : ∀ (zs : List Value) (ys : List V) (es : List D), Vals ys zs → Reps X.K H4 (ov B S4) ys es → ys.length ≤ sizeLine → R (.lst es) S4 → slicePick its.toArray none none (some i) = zs.toArray → wpAny (model X.prog X.w) X.A (getItem (.ref a) (.ref s4.heap.objs.size)) (EP X pins σ (QL X.K B G σ H S R)) X.xe { s4 with heap := s4.heap.push { cls := .type "slice", data := .fields #[vl, vu, vs] } } := fun zs ys es rz ry lz hR ep => by
    refine wpAny_getItem_list_slice ht.isList (Heap.IsSliceOf.new _ vl vu vs) pl pu ps (by rcases hi with h | h <;> (subst h; decide)) ?_ (by rw [List.size_toArray]; omega)
    rw [ep]
    have hp := I5.hok.fresh (Nat.le_refl _)
    refine ⟨.ref _, _, I5.laid (t' := s4.toks) (o := .lst ys) (fun b ob q => Heap.get?_push_of_some _ q) (Nat.le_refl _) ⟨lz, zs, 0, rz, Heap.get?_push_size _ rfl⟩, rfl, ?_⟩
    exact QL.trans (f1.trans f4) (QL.laid A4 hp hR (.lst (lstAt_new (A4.own.free hp)) (ry.fr (fr_laid hp))))
  rcases q4 with ⟨e, q4⟩ | ⟨e, q4⟩
  · cases e
    exact fin its xs ds rv r hz q4 (pick_one _)
  · cases e
    exact fin its.reverse xs.reverse ds.reverse rv.reverse r.reverse (by rw [List.length_reverse]; exact hz) q4 (PySem.W.krv_pick _)
end
end DL
namespace DL
open PySem PySem.Spec PyProof.Rows L2
/-! ### sorted(e.items()) -/
def tItemsV (to : TE) : TE := fun σ H Q => to σ H fun x H1 => ∃ a, x = .ref a ∧ ((∃ kvs, Rd H1 a (.dK kvs)) ∨ ∃ kvs, Rd H1 a (.dT kvs)) ∧ ∀ p, H1 p = none → Q (.ref p) (upd H1 p (L2.DX.itemsO p a))
theorem DicAt.more {K : PySem.W.Frag} {H H' : Hp} {T : Own} {a : Addr} {es : List (D × D)} (h : DicAt K H T a es) (g : ∀ b o, H b = some o → H' b = some o) : DicAt K H' T a es := by
  have rd : ∀ {u}, Rd H a u → Rd H' a u := fun h => by
    rcases h with h | ⟨o, h⟩
    · exact .inl (g _ _ h)
    · exact .inr ⟨o, g _ _ h⟩
  rcases h with ⟨kvs, h, r⟩ | ⟨kvs, h, r⟩
  · exact .inl ⟨kvs, rd h, r.fr (fr_more g)⟩
  · exact .inr ⟨kvs, rd h, r.fr (fr_more g)⟩
theorem upd_more {H : Hp} {p : Addr} {o : HO} (hp : H p = none) : ∀ b u, H b = some u → upd H p o b = some u := fun b u e => by rw [upd_ne (ne_of_none e hp)]; exact e
section
variable {X : Cx} {B : Bs}
theorem pe_items {o : Expr} {to : TE} {apos cpos : Pos} (ho : PE X o to) (hbase : attributeBase o "items" X.env (eval o X.env) = eval o X.env := by rfl) (hline : (apos.endLine == cpos.line) = true := by rfl) : PE X (.Call (.Attribute o "items" apos) [] [] cpos) (tItemsV to) := by
  refine ⟨fun pins s σ H Q I h => ?_⟩
  refine wpAny_Call_method0_late hbase hline (thn (ho.run pins s σ H _ I h) fun v s1 ⟨x, H1, I1, r1, a, ex, hd, q⟩ => ?_)
  subst ex
  cases r1
  have raw : (a == sysModules) = false ∧ ∃ arr ep, DT.Raw s1.heap a arr ep := by
    rcases hd with ⟨kvs, hd⟩ | ⟨kvs, hd⟩
    · obtain ⟨_, lo, vs, _, o, arr, ep, g1, g2, g3, _⟩ := dk_rd I1.hok hd
      exact ⟨lo, arr, ep, o, g1, g2, g3⟩
    · obtain ⟨_, lo, xs, _, o, arr, ep, g1, g2, g3, _⟩ := dt_rd I1.hok hd
      exact ⟨lo, arr, ep, o, g1, g2, g3⟩
  obtain ⟨lo, arr, ep, ob, g1, g2, g3⟩ := raw
  refine ⟨"dict", "dict.items", PySem.F.plainAttrs_dict, PySem.F.slot_dict_items, PySem.F.type_dict_items, ⟨ob, g1, g2.1⟩, fun b e => by cases e; exact ⟨ob, g1, g2.2.1⟩, Calls.callWith_builtin rfl (PySem.evalArgs_none ?_)⟩
  refine DT.callItems (es := arr) (ep := ep) lo ⟨ob, g1, g2, g3⟩ ?_
  have hf : H1 s1.heap.objs.size = none := I1.hok.fresh (Nat.le_refl _)
  exact ⟨.ref s1.heap.objs.size, _, I1.laid (t' := s1.toks) (fun b u e => Heap.get?_push_of_some _ e) (Nat.le_refl _) (L2.DX.itemsO_ok (Heap.get?_push_size _ rfl)), rfl, q _ hf⟩
def dSortIt (te : RE) : RE := fun G S R => te G S fun d S1 => ∃ es, dicOf S1 d = some es ∧ SortOk (itemsD es) ∧ R (.lst (sortDs (itemsD es))) S1
theorem de_sortIt {e : Expr} {te : RE} {p apos cpos pos : Pos} (hc : X.calm = true) (hu : X.A.units + 64 < cLine) (hm : X.mg "sorted" = none) (hg : Gl X "sorted") (hv : bootBuiltins "sorted" = some (.builtin "sorted")) (he : JE X B e te) (hbase : attributeBase e "items" X.env (eval e X.env) = eval e X.env := by rfl) (hline : (apos.endLine == cpos.line) = true := by rfl)
    (hs : starEach [.Call (.Attribute e "items" apos) [] [] cpos] X.env = (false, eval (.Call (.Attribute e "items" apos) [] [] cpos) X.env) :: starEach [] X.env := by rfl) (hpl : (backTo pos (starEach [] X.env)).any (·.1) = false := by rfl) :
    JE X B (.Call (.Name "sorted" p) [.Call (.Attribute e "items" apos) [] [] cpos] [] pos) (dSortIt te) := by
  refine PE.mono (pe_callB (call_sortItems hc hu) hg hm hv (pa_cons (pe_items he hbase hline) pa_nil hs) (by decide) (by decide) hs hpl) fun σ H Q ⟨G, S, R, A, q, k⟩ => ?_
  refine ⟨G, S, _, A, q, fun x H1 ⟨d, S1, ⟨es, hdc, ok, hR⟩, f1, A1, h1⟩ => ?_⟩
  obtain ⟨a, rfl, hd⟩ := dicOf_at A1.own h1 hdc
  refine ⟨a, rfl, ?_, fun p hp => ?_⟩
  · rcases hd with ⟨kvs, hd, _⟩ | ⟨kvs, hd, _⟩
    · exact .inl ⟨kvs, hd⟩
    · exact .inr ⟨kvs, hd⟩
  · refine ⟨p, a, ov B S1, es, rfl, upd_same, owns_more A1.own (upd_more hp), hd.more (upd_more hp), ok, fun H' l xs g hl hx rr => ?_⟩
    have g2 : ∀ b o, H1 b = some o → H' b = some o := fun b o e => g b o (upd_more hp b o e)
    have hl1 : H1 l = none := by
      cases e : H1 l with
      | none => rfl
      | some o => rw [upd_more hp l o e] at hl; cases hl
    exact k _ H' ⟨_, S1, hR, f1.trans (fr_more g2), A1.go (fr_more g2) (owns_more A1.own g2) A1.dis, .lst ⟨.inl hx, A1.own.free hl1⟩ rr⟩
/-! ### dict(pairs) -/
def pairsD : List D → Option (List (D × D))
  | [] => some []
  | .tup [k, v] :: r => (pairsD r).map ((k, v) :: ·)
  | _ :: _ => none
def mergeD (acc ps : List (D × D)) : List (D × D) := ps.foldl (fun acc p => putD acc p.1 p.2) acc
def mergeT (acc ps : List (List Key × V)) : List (List Key × V) := ps.foldl (fun acc p => putK acc p.1 p.2) acc
def rDictC : RCall
  | [d], S, R => ∃ ds ps, lstOf S d = some ds ∧ pairsD ds = some ps ∧ ((ps.all fun p => keyB1 p.1) = true ∨ (ps.all fun p => tupB p.1 && keyB p.1) = true) ∧ R (.dct (mergeD [] ps)) S
  | _, _, _ => False
theorem pairsD_cons {d : D} {ds : List D} {ps : List (D × D)} (h : pairsD (d :: ds) = some ps) : ∃ k v qs, d = .tup [k, v] ∧ pairsD ds = some qs ∧ ps = (k, v) :: qs := by
  unfold pairsD at h
  split at h
  · rename_i heq; cases heq
  · rename_i k v r heq
    cases heq
    cases e : pairsD ds with
    | none => rw [e] at h; cases h
    | some qs => rw [e] at h; cases h; exact ⟨k, v, qs, rfl, rfl, rfl⟩
  · cases h
theorem pairs_K {K : PySem.W.Frag} {H : Hp} {T : Own} : ∀ {ds : List D} {ps : List (D × D)} {vs : List V}, pairsD ds = some ps → (ps.all fun p => keyB1 p.1) = true → Reps K H T vs ds → ∃ (as : List Addr) (kvs : List (Key × V)), vs = as.map V.ref ∧ Paired (fun p kv => SqT K H p [kV kv.1, kv.2]) as kvs ∧ RepK K H T kvs ps
  | [], ps, _, h, _, .nil => by cases h; exact ⟨[], [], rfl, .nil, .nil⟩
  | d :: ds, ps, _, h, al, .cons r rs => by
    obtain ⟨k, v, qs, rfl, h2, rfl⟩ := pairsD_cons h
    rw [List.all_cons, Bool.and_eq_true] at al
    obtain ⟨as, kvs, rfl, p, q⟩ := pairs_K h2 al.2 rs
    obtain ⟨a, ws, rfl, ha, rr⟩ := rep_tup r
    obtain ⟨x, y, rfl, hx, hy⟩ := reps2 rr
    obtain ⟨kk, rfl⟩ := keyB1_of al.1
    have ex := rep_key hx
    subst ex
    exact ⟨a :: as, (kk, y) :: kvs, rfl, .cons ha.sq p, .cons hy q⟩
abbrev T3 := List Key × Addr × V
theorem pairs_T {K : PySem.W.Frag} {H : Hp} {T : Own} : ∀ {ds : List D} {ps : List (D × D)} {vs : List V}, pairsD ds = some ps → (ps.all fun p => tupB p.1 && keyB p.1) = true → Reps K H T vs ds →
    ∃ (as : List Addr) (xs : List T3), vs = as.map V.ref ∧ Paired (fun p (x : T3) => H p = some (.tup [.ref x.2.1, x.2.2]) ∧ H x.2.1 = some (.tup (x.1.map kV))) as xs ∧ RepT K H T (xs.map fun x => (x.1, x.2.2)) ps
  | [], ps, _, h, _, .nil => by cases h; exact ⟨[], [], rfl, .nil, .nil⟩
  | d :: ds, ps, _, h, al, .cons r rs => by
    obtain ⟨k, v, qs, rfl, h2, rfl⟩ := pairsD_cons h
    rw [List.all_cons, Bool.and_eq_true, Bool.and_eq_true] at al
    obtain ⟨as, xs, rfl, p, q⟩ := pairs_T h2 al.2 rs
    obtain ⟨a, ws, rfl, ha, rr⟩ := rep_tup r
    obtain ⟨x, y, rfl, hx, hy⟩ := reps2 rr
    cases k with
    | tup zs =>
      obtain ⟨kk, rfl⟩ := keysB_of al.1.2
      obtain ⟨b, rfl, hb⟩ := rep_keys hx
      exact ⟨a :: as, (kk, b, y) :: xs, rfl, .cons ⟨ha.1, hb⟩ p, .cons hy q⟩
    | _ => exact absurd al.1.1 (by simp [tupB])
theorem RepK.merge {K : PySem.W.Frag} {H : Hp} {T : Own} : ∀ {kvs : List (Key × V)} {ps : List (D × D)} {acc : List (Key × V)} {es : List (D × D)}, RepK K H T kvs ps → RepK K H T acc es → RepK K H T (mergeK acc kvs) (mergeD es ps)
  | _, _, _, _, .nil, a => a
  | _, _, acc, es, .cons (k := k) (v := v) (d := d) (kvs := kvs) (es := ps) h r, a => by
    show RepK K H T (mergeK (putK acc k v) kvs) (mergeD (putD es (keyD k) d) ps)
    exact RepK.merge r (a.put _ h)
theorem RepT.merge {K : PySem.W.Frag} {H : Hp} {T : Own} : ∀ {kvs : List (List Key × V)} {ps : List (D × D)} {acc : List (List Key × V)} {es : List (D × D)}, RepT K H T kvs ps → RepT K H T acc es → RepT K H T (mergeT acc kvs) (mergeD es ps)
  | _, _, _, _, .nil, a => a
  | _, _, acc, es, .cons (k := k) (v := v) (d := d) (kvs := kvs) (es := ps) h r, a => by
    show RepT K H T (mergeT (putK acc k v) kvs) (mergeD (putD es (.tup (k.map keyD)) d) ps)
    exact RepT.merge r (a.put _ h)
theorem KT_merge {H : Hp} : ∀ {xs : List T3} {ps : List (List Key × Addr × Value)} {acc : List (List Key × V)} {zs : List (List Key × Addr × Value)}, Paired (fun (x : T3) (p : List Key × Addr × Value) => p.1 = x.1 ∧ p.2.1 = x.2.1 ∧ H x.2.1 = some (.tup (x.1.map kV)) ∧ RelV x.2.2 p.2.2) xs ps → KT H acc zs →
    KT H (mergeT acc (xs.map fun x => (x.1, x.2.2))) (storedAllH zs ps)
  | _, _, _, _, .nil, a => a
  | _, _, acc, zs, .cons (a := x) (b := p) (l₁ := xs) (l₂ := ps) h r, a => by
    obtain ⟨h1, h2, h3, h4⟩ := h
    have := KT.put a _ h3 h4
    show KT H (mergeT (putK acc x.1 x.2.2) (xs.map fun x => (x.1, x.2.2))) (storedAllH (storedH zs p.1 p.2.1 p.2.2) ps)
    exact KT_merge r (by rw [h1, h2]; exact this)
theorem putK_len {κ : Type} [DecidableEq κ] (kvs : List (κ × V)) (k : κ) (v : V) : (putK kvs k v).length ≤ kvs.length + 1 := by
  unfold putK; split
  · rw [List.length_map]; omega
  · rw [List.length_append]; simp
theorem mergeT_len : ∀ (ps acc : List (List Key × V)), (mergeT acc ps).length ≤ acc.length + ps.length
  | [], acc => by simp [mergeT]
  | p :: ps, acc => by
    have h1 := mergeT_len ps (putK acc p.1 p.2)
    have h2 := putK_len acc p.1 p.2
    show (mergeT (putK acc p.1 p.2) ps).length ≤ _
    rw [List.length_cons]; omega
theorem dict_T (hcalm : X.calm = true) (hu : X.A.units + 64 < cLine) {pins : List (Addr × Obj)} {s : Shared} {σ : St} {H : Hp} {a : Addr} {as : List Addr} {xs : List T3} {Q : VK} (I : Inv X pins σ H s) (h : Rd H a (.lst (as.map V.ref)))
    (hp : Paired (fun p (x : T3) => H p = some (.tup [.ref x.2.1, x.2.2]) ∧ H x.2.1 = some (.tup (x.1.map kV))) as xs) (q : ∀ p, H p = none → Q (.ref p) (upd H p (.dT (mergeT [] (xs.map fun x => (x.1, x.2.2)))))) :
    wpAny (model X.prog X.w) X.A (call (.type "dict") [.ref a]) (EP X pins σ Q) X.xe s := by
  obtain ⟨z, its, n, rv, hg⟩ := (show ObjOk X.prog X.w H s.heap a (.lst (as.map V.ref)) from rd_of I.hok h)
  have ei := refs_at rv
  subst ei
  -- the pairs, by their addresses
  have prs : ∀ {as : List Addr} {xs : List T3}, Paired (fun p (x : T3) => H p = some (.tup [.ref x.2.1, x.2.2]) ∧ H x.2.1 = some (.tup (x.1.map kV))) as xs →
      ∃ ps : List (List Key × Addr × Value), Paired (fun (x : T3) (p : List Key × Addr × Value) => p.1 = x.1 ∧ p.2.1 = x.2.1 ∧ H x.2.1 = some (.tup (x.1.map kV)) ∧ RelV x.2.2 p.2.2) xs ps ∧ Paired (fun (b : Addr) (p : List Key × Addr × Value) => s.heap.IsTuple b #[.ref p.2.1, p.2.2]) as ps := by
    intro as xs hp
    induction hp with
    | nil => exact ⟨[], .nil, .nil⟩
    | @cons b x _ _ h _ ih =>
      obtain ⟨ps, i1, i2⟩ := ih
      obtain ⟨its, vr, ht⟩ := tup_is I h.1
      obtain ⟨u1, u2, rfl, r1, r2⟩ := vals2 vr
      cases r1
      exact ⟨(x.1, x.2.1, u2) :: ps, .cons ⟨rfl, rfl, h.2, r2⟩ i1, .cons ht i2⟩
  obtain ⟨ps, p1, p2⟩ := prs hp
  have la : as.length = ps.length := Paired.length p2
  have lx : xs.length = ps.length := Paired.length p1
  have PA := PairArg.list (prog := X.prog) (w := X.w) a (as.map Value.ref).toArray (fun j => as.getD j 0) (ps.map fun p => (Value.ref p.2.1, p.2.2))
  have ok : PlainSeq "list" s.heap a (as.map Value.ref).toArray ∧ PairItems s.heap (as.map Value.ref).toArray (fun j => as.getD j 0) (ps.map fun p => (Value.ref p.2.1, p.2.2)) := by
    refine ⟨⟨_, n, hg, rfl, rfl, rfl⟩, by simp [la], fun j k v e => ?_⟩
    rw [List.getElem?_map] at e
    cases ep : ps[j]? with
    | none => rw [ep] at e; exact nomatch e
    | some p =>
      rw [ep] at e
      cases (Option.some.inj e)
      obtain ⟨b, eb, ht⟩ := paired_get2 p2 ep
      have hd : as.getD j 0 = b := by rw [List.getD_eq_getElem?_getD, eb]; rfl
      refine ⟨by simp [eb, hd], .inl ?_⟩
      show s.heap.IsTuple (as.getD j 0) _
      rw [hd]; exact ht
  have keys : ∀ h' : Heap, (∀ b o, s.heap.get? b = some o → h'.get? b = some o) → ∀ x ∈ ps, (tupleKind (mixKind X.prog X.w)).is h' x.1 x.2.1 := by
    intro h' kk x hx
    obtain ⟨j, hj⟩ := List.mem_iff_getElem?.mp hx
    obtain ⟨y, _, e1, e2, e3, _⟩ := paired_get2 p1 hj
    rw [e1, e2]
    obtain ⟨o, it, m, o1, o2, o3, o4⟩ := key_of I.hok e3
    exact ⟨o, it, m, kk _ _ o1, o2, o3, o4⟩
  refine call_dict_pairsH (knd := tupleKind (mixKind X.prog X.w)) (ps := ps) PA (I.ok.hd hcalm) (show X.A.units + 1 + 1 < cLine by omega) ok ⟨by simp, fun i key v hr => ?_⟩ (fun h' kk x hx => ?_) (by rw [List.length_map, ← la]; simpa using z) fun h' tk hd' kk => ?_
  · have hr' : (ps.map fun p => (Value.ref p.2.1, p.2.2))[i]? = some (key, v) := hr
    rw [List.getElem?_map] at hr'
    cases ep : ps[i]? with
    | none => rw [ep] at hr'; exact nomatch hr'
    | some p =>
      rw [ep] at hr'
      cases (Option.some.inj hr')
      exact ⟨p.1, p.2.1, rfl, rfl⟩
  · exact keys h' (fun b o e => kk b o (Nat.ne_of_lt (Heap.lt_size e)) (fun m => nomatch m) e) x hx
  · have k2 : ∀ b o, s.heap.get? b = some o → h'.get? b = some o := fun b o e => kk b o (fun m => nomatch m) e
    have hm : (s.heap.objs.size == sysModules) = false := beq_eq_false_iff_ne.mpr (Nat.ne_of_gt I.big)
    have hf : H s.heap.objs.size = none := I.hok.fresh (Nat.le_refl _)
    obtain ⟨o, es, ep, g1, g2, g3, g4, _, g5⟩ := hd'
    have rel : KT H (mergeT [] (xs.map fun x => (x.1, x.2.2))) (storedAllH [] ps) := KT_merge p1 .nil
    have hl : (mergeT [] (xs.map fun x => (x.1, x.2.2))).length ≤ sizeLine := by
      have := mergeT_len (xs.map fun x => (x.1, x.2.2)) []
      rw [List.length_map, List.length_nil] at this
      rw [List.length_map] at z
      omega
    exact ⟨.ref s.heap.objs.size, _, I.laid (t' := tk) (o := .dT (mergeT [] (xs.map fun x => (x.1, x.2.2)))) k2 (Nat.le_refl _) ⟨hl, hm, _, KT.keeps rel (fun b ys e => upd_more hf b _ e), o, es, ep, g1, g2, g3, g4, g5⟩, rfl, q _ hf⟩
theorem cd_dict (hcalm : X.calm = true) (hu : X.A.units + 64 < cLine) : CallD X (.type "dict") rDictC := by
  intro B pins s σ H S G xs us ds R I A hx rx q
  unfold rDictC at q
  split at q
  · obtain ⟨x, rfl, h⟩ := reps1 hx
    obtain ⟨ds, ps, e1, e2, al, q⟩ := q
    obtain ⟨a, vs, rfl, hl, r⟩ := lstOf_at A.own h e1
    rcases al with al | al
    · obtain ⟨as, kvs, rfl, p, rk⟩ := pairs_K e2 al r
      exact call_dictP hcalm pins s σ H _ us _ I rx ⟨a, as, kvs, rfl, .inl hl, p, fun p hp => QL.laid A hp q (.dk ⟨.inl upd_same, A.own.free hp⟩ ((RepK.merge rk .nil).fr (fr_laid hp)))⟩
    · obtain ⟨as, xs, rfl, p, rk⟩ := pairs_T e2 al r
      obtain ⟨u, rfl, ru⟩ := vals1 rx
      cases ru
      exact dict_T hcalm hu I hl p fun p hp => QL.laid A hp q (.dt ⟨.inl upd_same, A.own.free hp⟩ ((RepT.merge rk .nil).fr (fr_laid hp)))
  · exact q.elim
end
end DL
namespace DL
open PySem PySem.Spec PyProof.Rows L2
/-! ### for k in d -/
def iKeysL (td : TE) : TI := fun σ H R => td σ H fun x H1 => ∃ d, x = .ref d ∧
  ((∃ o kvs, H1 d = some (.frz o (.dK kvs)) ∧ R (Itk d o kvs) H1) ∨ (∃ o kvs, H1 d = some (.frz o (.dT kvs)) ∧ R (Itkt d o kvs) H1) ∨
   (∃ kvs, H1 d = some (.dK kvs) ∧ ∀ o, R (Itk d o kvs) (upd H1 d (.frz o (.dK kvs)))) ∨ ∃ kvs, H1 d = some (.dT kvs) ∧ ∀ o, R (Itkt d o kvs) (upd H1 d (.frz o (.dT kvs))))
section
variable {X : Cx} {B : Bs} {tg e : Expr} {te : RE}
theorem pi_keysL {td : TE} (he : PE X e td) : PI X tg e (iKeysL td) := by
  refine ⟨fun pins s σ H R I h => ?_⟩
  refine thn (he.run pins s σ H _ I h) fun u s1 ⟨x, H1, I1, rx, d, ex, q⟩ => ?_
  subst ex
  obtain rfl : u = Value.ref d := rx
  have q2 : ∃ H2, Inv X pins σ H2 s1 ∧ ((∃ o kvs, H2 d = some (.frz o (.dK kvs)) ∧ R (Itk d o kvs) H2) ∨ ∃ o kvs, H2 d = some (.frz o (.dT kvs)) ∧ R (Itkt d o kvs) H2) := by
    rcases q with ⟨o, kvs, hd, q⟩ | ⟨o, kvs, hd, q⟩ | ⟨kvs, hd, q⟩ | ⟨kvs, hd, q⟩
    · exact ⟨H1, I1, .inl ⟨o, kvs, hd, q⟩⟩
    · exact ⟨H1, I1, .inr ⟨o, kvs, hd, q⟩⟩
    · obtain ⟨o, I2⟩ := I1.lock hd trivial
      exact ⟨_, I2, .inl ⟨o, kvs, upd_same, q o⟩⟩
    · obtain ⟨o, I2⟩ := I1.lock hd trivial
      exact ⟨_, I2, .inr ⟨o, kvs, upd_same, q o⟩⟩
  obtain ⟨H2, I2, ⟨o, kvs, hd, q⟩ | ⟨o, kvs, hd, q⟩⟩ := q2
  · obtain ⟨hs, hgd, hx, es, ep, vs, hdt, hsz, kv, hm⟩ := I2.frzK hd
    refine iter_keys hs hgd hx hdt (pi_one (tk := s1.toks) I2 _ (turn_keys _ hdt) ⟨_, Heap.get?_push_size _ rfl, rfl, ?_⟩ q)
    rw [hsz] <;> rfl
  · obtain ⟨hs, hgd, hx, es, ep, hdt, hsz, ent⟩ := I2.frzT hd
    refine iter_keys hs hgd hx hdt (pi_one (tk := s1.toks) I2 _ (turn_keysT _ hdt) ⟨_, Heap.get?_push_size _ rfl, rfl, ?_⟩ q)
    rw [hsz] <;> rfl
theorem keyAtK {K : PySem.W.Frag} {H : Hp} {T : Own} : ∀ {kvs : List (Key × V)} {es : List (D × D)} {i : Nat} {k : Key} {v : V}, RepK K H T kvs es → kvs[i]? = some (k, v) → ∃ d, (es.map (·.1))[i]? = some d ∧ Rep K H T (kV k) d
  | _, _, _, _, _, .nil, e => by simp at e
  | _, _, 0, _, _, .cons h r, e => by
    cases (Option.some.inj (show some _ = some _ from e))
    exact ⟨_, rfl, rep_kV _ _ _ _⟩
  | _, _, i + 1, _, _, .cons h r, e => keyAtK (i := i) r e
theorem keyAtT {K : PySem.W.Frag} {H : Hp} {T : Own} : ∀ {kvs : List (List Key × V)} {es : List (D × D)} {i : Nat} {k : List Key} {v : V}, RepT K H T kvs es → kvs[i]? = some (k, v) → (es.map (·.1))[i]? = some (.tup (k.map keyD))
  | _, _, _, _, _, .nil, e => by simp at e
  | _, _, 0, _, _, .cons h r, e => by
    cases (Option.some.inj (show some _ = some _ from e))
    rfl
  | _, _, i + 1, _, _, .cons h r, e => keyAtT (i := i) r e
/-- the frozen dict, locked -/
theorem its_kF {K : PySem.W.Frag} {a : Addr} {o : Obj} {kvs : List (Key × V)} {es : List (D × D)} : ItsD K (Itk a o kvs) (es.map (·.1)) (fun _ => True) (fun H T => H a = some (.frz o (.dK kvs)) ∧ T a = none ∧ RepK K H T kvs es) where
  go := fun i H S Z ⟨h, _, r⟩ _ _ hi => ⟨h, by rw [r.length]; simpa using hi⟩
  stop := fun i H S Z ⟨h, _, r⟩ _ _ hi => ⟨h, by rw [r.length]; simpa using hi⟩
  yld := fun i x H H' S Z ⟨h, _, r⟩ _ W hi y => by
    obtain ⟨rfl, k, v, e, rfl⟩ := y
    obtain ⟨d, e1, e2⟩ := keyAtK r e
    exact ⟨d, e1, Fr.refl _ _, W, e2⟩
  keep := fun H T H' T' ⟨h, n, r⟩ f => by
    obtain ⟨s1, h1 | ⟨m, _⟩⟩ := f a _ h n
    · exact ⟨h1, s1, r.fr f⟩
    · exact m.elim
theorem its_tF {K : PySem.W.Frag} {a : Addr} {o : Obj} {kvs : List (List Key × V)} {es : List (D × D)} : ItsD K (Itkt a o kvs) (es.map (·.1)) (fun _ => True) (fun H T => H a = some (.frz o (.dT kvs)) ∧ T a = none ∧ RepT K H T kvs es) where
  go := fun i H S Z ⟨h, _, r⟩ _ _ hi => ⟨h, by rw [r.length]; simpa using hi⟩
  stop := fun i H S Z ⟨h, _, r⟩ _ _ hi => ⟨h, by rw [r.length]; simpa using hi⟩
  yld := fun i x H H' S Z ⟨h, _, r⟩ _ W hi y => by
    obtain ⟨rfl, k, v, q, e, rfl, hq⟩ := y
    exact ⟨_, keyAtT r e, Fr.refl _ _, W, .tup ⟨hq, own_notup W hq⟩ (reps_kV _ _ _ _)⟩
  keep := fun H T H' T' ⟨h, n, r⟩ f => by
    obtain ⟨s1, h1 | ⟨m, _⟩⟩ := f a _ h n
    · exact ⟨h1, s1, r.fr f⟩
    · exact m.elim
theorem its_kO {K : PySem.W.Frag} {a : Addr} {o : Obj} {kvs : List (Key × V)} {es : List (D × D)} : ItsD K (Itk a o kvs) (es.map (·.1)) (fun S => S a = some (.dcz (o, .dK kvs) es)) (fun _ _ => True) where
  go := fun i H S Z _ h W hi => by
    obtain ⟨h1, ⟨kvs', e, r⟩ | ⟨kvs', e, r⟩⟩ := W a _ (over_some h)
    · cases e; exact ⟨h1, by rw [r.length]; simpa using hi⟩
    · cases e
  stop := fun i H S Z _ h W hi => by
    obtain ⟨h1, ⟨kvs', e, r⟩ | ⟨kvs', e, r⟩⟩ := W a _ (over_some h)
    · cases e; exact ⟨h1, by rw [r.length]; simpa using hi⟩
    · cases e
  yld := fun i x H H' S Z _ h W hi y => by
    obtain ⟨rfl, k, v, e, rfl⟩ := y
    obtain ⟨h1, ⟨kvs', e', r⟩ | ⟨kvs', e', r⟩⟩ := W a _ (over_some h)
    · cases e'
      obtain ⟨d, e1, e2⟩ := keyAtK r e
      exact ⟨d, e1, Fr.refl _ _, W, e2⟩
    · cases e'
  keep := fun _ _ _ _ _ _ => trivial
theorem its_tO {K : PySem.W.Frag} {a : Addr} {o : Obj} {kvs : List (List Key × V)} {es : List (D × D)} : ItsD K (Itkt a o kvs) (es.map (·.1)) (fun S => S a = some (.dcz (o, .dT kvs) es)) (fun _ _ => True) where
  go := fun i H S Z _ h W hi => by
    obtain ⟨h1, ⟨kvs', e, r⟩ | ⟨kvs', e, r⟩⟩ := W a _ (over_some h)
    · cases e
    · cases e; exact ⟨h1, by rw [r.length]; simpa using hi⟩
  stop := fun i H S Z _ h W hi => by
    obtain ⟨h1, ⟨kvs', e, r⟩ | ⟨kvs', e, r⟩⟩ := W a _ (over_some h)
    · cases e
    · cases e; exact ⟨h1, by rw [r.length]; simpa using hi⟩
  yld := fun i x H H' S Z _ h W hi y => by
    obtain ⟨rfl, k, v, q, e, rfl, hq⟩ := y
    obtain ⟨h1, ⟨kvs', e', r⟩ | ⟨kvs', e', r⟩⟩ := W a _ (over_some h)
    · cases e'
    · cases e'
      exact ⟨_, keyAtT r e, Fr.refl _ _, W, .tup ⟨hq, own_notup W hq⟩ (reps_kV _ _ _ _)⟩
  keep := fun _ _ _ _ _ _ => trivial
theorem fr_lock {H : Hp} {S : Own} {a : Addr} {u : HO} {o : Obj} (h : H a = some u) (m : Mut (some u)) : Fr H S (upd H a (.frz o u)) S := fun b w e s => ⟨s, by
  by_cases z : b = a
  · subst z
    rw [h] at e; cases e
    exact .inr ⟨m, o, upd_same⟩
  · rw [upd_ne z]; exact .inl e⟩
theorem owns_lock {K : PySem.W.Frag} {H : Hp} {S : Own} {a : Addr} {u : HO} {o : Obj} (W : Owns K H S) (h : H a = some u) (m : Mut (some u)) (n : S a = none) : Owns K (upd H a (.frz o u)) S := fun b w e =>
  (W b w e).fr (fr_lock h m) (by rw [upd_ne (fun z => by rw [z, n] at e; cases e)])
def diKeys (te : RE) : RI := fun G S R => te G S fun d S1 => match d with
  | .dct es => R (es.map (·.1)) (fun _ => True) S1
  | .ref a => (∃ z es, S1 a = some (.dcz z es) ∧ R (es.map (·.1)) (fun S => S a = some (.dcz z es)) S1) ∨ ∃ es, S1 a = some (.dct es) ∧ ∀ z, R (es.map (·.1)) (fun S => S a = some (.dcz z es)) (S1.put a (.dcz z es))
  | _ => False
theorem di_keys (he : JE X B e te) : JI X B tg e (diKeys te) := PI.mono (pi_keysL he) fun σ H Q ⟨G, S, R, A, q, k⟩ => by
  refine ⟨G, S, _, A, q, fun v H1 ⟨d, S1, q1, f1, A1, h1⟩ => ?_⟩
  cases d with
  | dct es =>
    obtain ⟨a, rfl, ⟨kvs, h, r⟩ | ⟨kvs, h, r⟩⟩ := rep_dct h1
    · refine ⟨a, rfl, ?_⟩
      rcases h.1 with hh | ⟨o, hh⟩
      · refine .inr (.inr (.inl ⟨kvs, hh, fun o => ?_⟩))
        have f := fr_lock (S := ov B S1) (o := o) hh trivial
        exact k _ _ _ _ _ S1 q1 (f1.trans f) (A1.go f (owns_lock A1.own hh trivial h.2) A1.dis) its_kF ⟨upd_same, h.2, r.fr f⟩
      · exact .inl ⟨o, kvs, hh, k _ _ _ _ _ S1 q1 f1 A1 its_kF ⟨hh, h.2, r⟩⟩
    · refine ⟨a, rfl, ?_⟩
      rcases h.1 with hh | ⟨o, hh⟩
      · refine .inr (.inr (.inr ⟨kvs, hh, fun o => ?_⟩))
        have f := fr_lock (S := ov B S1) (o := o) hh trivial
        exact k _ _ _ _ _ S1 q1 (f1.trans f) (A1.go f (owns_lock A1.own hh trivial h.2) A1.dis) its_tF ⟨upd_same, h.2, r.fr f⟩
      · exact .inr (.inl ⟨o, kvs, hh, k _ _ _ _ _ S1 q1 f1 A1 its_tF ⟨hh, h.2, r⟩⟩)
  | ref a =>
    cases h1
    refine ⟨a, rfl, ?_⟩
    rcases q1 with ⟨z, es, hs, q1⟩ | ⟨es, hs, q1⟩
    · obtain ⟨h1, ⟨kvs, e, r⟩ | ⟨kvs, e, r⟩⟩ := A1.own a _ (over_some hs)
      · obtain ⟨o, u⟩ := z
        cases e
        exact .inl ⟨o, kvs, h1, k _ _ _ _ _ S1 q1 f1 A1 its_kO trivial⟩
      · obtain ⟨o, u⟩ := z
        cases e
        exact .inr (.inl ⟨o, kvs, h1, k _ _ _ _ _ S1 q1 f1 A1 its_tO trivial⟩)
    · have go : ∀ (u : HO) (o : Obj) (R' : Prop), H1 a = some u → ((∃ kvs, u = .dK kvs ∧ RepK X.K H1 (ov B S1) kvs es) ∨ ∃ kvs, u = .dT kvs ∧ RepT X.K H1 (ov B S1) kvs es) →
          (Fr H (ov B S) (upd H1 a (.frz o u)) (ov B (S1.put a (.dcz (o, u) es))) → At X.K B (upd H1 a (.frz o u)) (S1.put a (.dcz (o, u) es)) G σ → R') → R' := fun u o R' hu hr kk => by
        have e : ov B (S1.put a (.dcz (o, u) es)) = (ov B S1).put a (.dcz (o, u) es) := over_put
        have f : Fr H1 (ov B S1) (upd H1 a (.frz o u)) (ov B (S1.put a (.dcz (o, u) es))) := by rw [e]; exact fr_write (over_some hs)
        refine kk (f1.trans f) (A1.go f ?_ (A1.dis.put (A1.dis _ _ hs)))
        rw [e]
        refine A1.own.write (over_some hs) ⟨upd_same, ?_⟩
        rw [e] at f
        rcases hr with ⟨kvs, h, r⟩ | ⟨kvs, h, r⟩
        · exact .inl ⟨kvs, h, r.fr f⟩
        · exact .inr ⟨kvs, h, r.fr f⟩
      rcases A1.own a _ (over_some hs) with ⟨kvs, h, r⟩ | ⟨kvs, h, r⟩
      · exact .inr (.inr (.inl ⟨kvs, h, fun o => go _ o _ h (.inl ⟨kvs, rfl, r⟩) fun f A => k _ _ _ _ _ _ (q1 _) f A its_kO trivial⟩))
      · exact .inr (.inr (.inr ⟨kvs, h, fun o => go _ o _ h (.inr ⟨kvs, rfl, r⟩) fun f A => k _ _ _ _ _ _ (q1 _) f A its_tO trivial⟩))
  | _ => exact q1.elim
end
end DL
namespace DL
open PySem PySem.Spec PyProof.Rows L2
/-! ### {k: v for t0 in i0 if .. for t1 in i1 if ..} -/
abbrev DC2 (kx vx t0 i0 t1 i1 : Expr) (f0 f1 : List Expr) (sc : Scope) (pos : Pos) : Expr := .DictComp kx vx [⟨t0, i0, f0, 0⟩, ⟨t1, i1, f1, 0⟩] sc pos
theorem dc2_turn0 (kx vx t0 i0 t1 i1 : Expr) (f0 f1 : List Expr) (sc : Scope) (pos : Pos) (it : Value) (D : Addr) (env : Env) :
    compTurn (DC2 kx vx t0 i0 t1 i1 f0 f1 sc pos) 0 it (.ref D) env = (do
      standAt i0.pos
      match ← pyNext it with
      | none => pure (.done .next)
      | some v =>
        letOwnedTupleGo t0 it v
        assign t0 env v
        let mut go := true
        for c in f0 do
          if go then go ← isTrue c env (eval c env)
        if go then
          let z ← eval i1 env
          standAt i1.pos
          let z ← foldedSetIterable i1 env z
          let _ ← runOwn (.compStart (DC2 kx vx t0 i0 t1 i1 f0 f1 sc pos) 1 (← holding [z] (pyIter z)) (.ref D) env) env
        again (.compLoop (DC2 kx vx t0 i0 t1 i1 f0 f1 sc pos) 0 it (.ref D) env)) := by rfl
theorem dc2_turn1 (kx vx t0 i0 t1 i1 : Expr) (f0 f1 : List Expr) (sc : Scope) (pos : Pos) (it : Value) (D : Addr) (env : Env) :
    compTurn (DC2 kx vx t0 i0 t1 i1 f0 f1 sc pos) 1 it (.ref D) env = (do
      standAt i1.pos
      match ← pyNext it with
      | none => pure (.done .next)
      | some v =>
        letOwnedTupleGo t1 it v
        assign t1 env v
        let mut go := true
        for c in f1 do
          if go then go ← isTrue c env (eval c env)
        if go then
          (do
            let a ← eval kx env
            let b ← holding [a] (eval vx env)
            standAt { kx.pos with endLine := vx.pos.endLine, endCol := vx.pos.endCol }
            holding [a, b] (dictSet D a b))
        again (.compLoop (DC2 kx vx t0 i0 t1 i1 f0 f1 sc pos) 1 it (.ref D) env)) := by rfl
section
variable {P : Program} {w : World} {A : Around} {R : Result → Shared → Prop} {s : Shared} {kx vx t0 i0 t1 i1 : Expr} {f0 f1 : List Expr} {sc : Scope} {pos : Pos} {it : Value} {D : Addr} {env : Env}
abbrev NB (P : Program) (w : World) (A : Around) (env : Env) (R : Result → Shared → Prop) : Value → Shared → Prop := notedBy (model P w) A env fun e s' => R (.error e) s'
abbrev tests (fs : List Expr) (env : Env) : Sem Bool := forIn fs true fun c r => if r = true then do let ok ← isTrue c env (eval c env); pure (ForInStep.yield ok) else pure (ForInStep.yield r)
theorem dc2_loop0 (hs : ∀ z, foldedSetIterable i1 env z = pure z) (J : Nat → Shared → Prop)
    (turn : ∀ n s, J n s → wpAny (model P w) A (pyNext it) (fun r sa => match r with
      | none => R (.ok .next) sa
      | some v => wpAny (model P w) A (letOwnedTupleGo t0 it v) (fun _ sb => wpAny (model P w) A (assign t0 env v) (fun _ sc1 => wpAny (model P w) A (tests f0 env) (fun go sd =>
            if go = true then wpAny (model P w) A (eval i1 env) (fun z se => wpAny (model P w) A (pyIter z) (fun jt sf =>
              codeAny (model P w) A (.compStart (DC2 kx vx t0 i0 t1 i1 f0 f1 sc pos) 1 jt (.ref D) env) (fun r s' => match r with
                | .ok _ => ∃ m, m < n ∧ J m s'
                | .error _ => False) sf) (NB P w A env R) se) (NB P w A env R) sd
            else ∃ m, m < n ∧ J m sd) (NB P w A env R) sc1) (NB P w A env R) sb) (NB P w A env R) sa) (NB P w A env R) s)
    (n : Nat) (h : J n s) : codeAny (model P w) A (.compLoop (DC2 kx vx t0 i0 t1 i1 f0 f1 sc pos) 0 it (.ref D) env) R s := by
  refine codeAny_loop rfl J (fun n s hJ => ?_) n h
  show wpAny _ A ((compTurn (DC2 kx vx t0 i0 t1 i1 f0 f1 sc pos) 0 it (.ref D) env).onRaise _) _ _ s
  refine wpAny_noted ?_
  rw [dc2_turn0]
  refine wpAny_bind (wpAny_standAt (wpAny_bind (wpAny_mono (turn n s hJ) (fun r sa ha => ?_) fun _ _ z => z)))
  cases r with
  | none => exact wpAny_pure ha
  | some v =>
    refine wpAny_bind (wpAny_mono ha (fun _ sb hb => wpAny_bind (wpAny_mono hb (fun _ sc1 hc => wpAny_bind (wpAny_mono hc (fun go sd hd => ?_) fun _ _ z => z)) fun _ _ z => z)) fun _ _ z => z)
    cases go with
    | false => exact wpAny_pure ⟨rfl, hd⟩
    | true =>
      refine wpAny_bind (wpAny_mono hd (fun z se he => wpAny_bind (wpAny_standAt (wpAny_bind (wpAny_of_eq (hs z) (wpAny_bind (wpAny_holding (wpAny_mono he (fun jt sf hf => ?_) fun _ _ y => y))))))) fun _ _ y => y)
      refine wpAny_bind (wpAny_runOwn ?_)
      rw [Around.mark_none]
      refine codeAny_mono hf fun r s' hr => ?_
      cases r with
      | ok f =>
        first
          | exact wpAny_pure ⟨rfl, hr⟩
          | exact wpAny_bind (wpAny_pure (wpAny_pure ⟨rfl, hr⟩))
      | error e => exact hr.elim
theorem dc2_loop1 (J : Nat → Shared → Prop)
    (turn : ∀ n s, J n s → wpAny (model P w) A (pyNext it) (fun r sa => match r with
      | none => R (.ok .next) sa
      | some v => wpAny (model P w) A (letOwnedTupleGo t1 it v) (fun _ sb => wpAny (model P w) A (assign t1 env v) (fun _ sc1 => wpAny (model P w) A (tests f1 env) (fun go sd =>
            if go = true then wpAny (model P w) A (eval kx env) (fun a se => wpAny (model P w) A (eval vx env) (fun b sf =>
              wpAny (model P w) A (dictSet D a b) (fun _ sg => ∃ m, m < n ∧ J m sg) (NB P w A env R) sf) (NB P w A env R) se) (NB P w A env R) sd
            else ∃ m, m < n ∧ J m sd) (NB P w A env R) sc1) (NB P w A env R) sb) (NB P w A env R) sa) (NB P w A env R) s)
    (n : Nat) (h : J n s) : codeAny (model P w) A (.compLoop (DC2 kx vx t0 i0 t1 i1 f0 f1 sc pos) 1 it (.ref D) env) R s := by
  refine codeAny_loop rfl J (fun n s hJ => ?_) n h
  show wpAny _ A ((compTurn (DC2 kx vx t0 i0 t1 i1 f0 f1 sc pos) 1 it (.ref D) env).onRaise _) _ _ s
  refine wpAny_noted ?_
  rw [dc2_turn1]
  refine wpAny_bind (wpAny_standAt (wpAny_bind (wpAny_mono (turn n s hJ) (fun r sa ha => ?_) fun _ _ z => z)))
  cases r with
  | none => exact wpAny_pure ha
  | some v =>
    refine wpAny_bind (wpAny_mono ha (fun _ sb hb => wpAny_bind (wpAny_mono hb (fun _ sc1 hc => wpAny_bind (wpAny_mono hc (fun go sd hd => ?_) fun _ _ z => z)) fun _ _ z => z)) fun _ _ z => z)
    cases go with
    | false => exact wpAny_pure ⟨rfl, hd⟩
    | true =>
      exact wpAny_bind (wpAny_bind (wpAny_mono hd (fun a se he => wpAny_bind (wpAny_holding (wpAny_mono he (fun b sf hf => wpAny_bind (wpAny_standAt (wpAny_holding (wpAny_mono hf (fun _ sg hg => wpAny_pure ⟨rfl, hg⟩) fun _ _ y => y)))) fun _ _ y => y))) fun _ _ y => y))
theorem dc2_start1 (h0 : codeAny (model P w) A (.compLoop (DC2 kx vx t0 i0 t1 i1 f0 f1 sc pos) 1 it (.ref D) env) R s)
    (h : wpAny (model P w) A (pyIter it) (fun jt s' => codeAny (model P w) A (.compLoop (DC2 kx vx t0 i0 t1 i1 f0 f1 sc pos) 1 jt (.ref D) env) R s') (notedBy (model P w) A env fun x s' => R (.error x) s') s) :
    codeAny (model P w) A (.compStart (DC2 kx vx t0 i0 t1 i1 f0 f1 sc pos) 1 it (.ref D) env) R s := by
  refine codeAny_of_tree ?_
  show wpAny _ _ ((compStart (DC2 kx vx t0 i0 t1 i1 f0 f1 sc pos) 1 it (.ref D) env).onRaise _) _ _ s
  refine wpAny_notedAt ?_
  unfold compStart
  show wpAny _ _ (ask >>= _) _ _ s
  refine wpAny_bind (wpAny_askSetting (wpAny_ite ?_))
  split
  · first
      | exact wpAny_bind (wpAny_pure (wpAny_pure (And.intro rfl h0)))
      | exact wpAny_pure (And.intro rfl h0)
  · first
      | exact wpAny_bind (wpAny_rule (wpAny_bind (wpAny_standAt (wpAny_bind (wpAny_mono h (fun jt s' z => wpAny_pure (And.intro rfl z)) fun _ _ x => x)))))
      | (refine wpAny_bind (wpAny_rule ?_); show wpAny _ _ (standAt i1.pos >>= _) _ _ s; exact wpAny_bind (wpAny_standAt (wpAny_bind (wpAny_mono h (fun jt s' z => wpAny_pure (And.intro rfl z)) fun _ _ x => x))))
end
def DkOr (H : Hp) (D : Addr) (kvs : List (Key × V)) : Prop := H D = some (.dK kvs) ∨ (kvs = [] ∧ H D = some (.dT []))
theorem d_set1 {X : Cx} {pins : List (Addr × Obj)} {σ : St} {H : Hp} {s : Shared} {E : Value → Shared → Prop} {D : Addr} {kvs : List (Key × V)} {k : Key} {v : V} {u r : Value} {Q : Unit → Shared → Prop} (I : Inv X pins σ H s) (hD : DkOr H D kvs) (hz : kvs.length < sizeLine)
    (ry : RelV (kV k) u) (rv : RelV v r) (h : ∀ s', Inv X pins σ (upd H D (.dK (putK kvs k v))) s' → Q () s') : wpAny (model X.prog X.w) X.A (dictSet D u r) Q E s := by
  have st : (D == sysModules) = false ∧ Mut (H D) ∧ ∃ vs, KV kvs vs ∧ s.heap.DictOf (mixKind X.prog X.w) D vs := by
    rcases hD with hD | ⟨rfl, hD⟩
    · obtain ⟨_, hd, vs, rel, dd⟩ := dk_of I.hok hD
      exact ⟨hd, by rw [hD]; trivial, vs, rel, dd⟩
    · obtain ⟨hd, dd⟩ := empty_K I (.inl hD)
      exact ⟨hd, by rw [hD]; trivial, [], .nil, dd⟩
  obtain ⟨hd, mu, vs, rel, dd⟩ := st
  have hzv : vs.length ≤ sizeLine := by rw [← rel.length]; omega
  have hl : (putK kvs k v).length ≤ sizeLine := by have := length_putK kvs k v; omega
  refine wpAny_dictSet_pairs (hsz := hzv) (kV_is ry) dd fun h' dd' hs => h _ ?_
  exact d_write I mu hs (let ⟨q, _, _, hq, _⟩ := dd'; ⟨q, hq⟩) (dk_new hl hd (rel.put k rv) dd')
/-- what it reads: behind the first clause's store and tests the second source's own loop, from which Nx is reached -/
def tDc2 (wi : TI) (g : TG) (tt : TT) (wj : TI) (h : TG) (uu : TT) (tk tv : TE) (vs ws : List Nat) : TE := fun σ H Q => wi σ H fun J Ha => ∀ D, Ha D = none → ∃ W : Nat → Nat → Hp → Prop, (∃ m, W 0 m (upd Ha D (.dK []))) ∧ ∀ i m H, W i m H →
  (J.stop i H ∧ Q (.ref D) H) ∨ (J.go i H ∧ ∃ Nx : Hp → Prop, (∀ H', Nx H' → ∃ m', m' < m ∧ W (i + 1) m' H') ∧ ∀ x H', J.yld i H x H' → g x (wipe σ vs) H' fun σa Hb => wipe σa vs = wipe σ vs ∧ tt σa Hb fun b Hc =>
    if b = true then wj σa Hc fun L Hd => ∃ U : Nat → Nat → Hp → Prop, (∃ m, U 0 m Hd) ∧ ∀ j k H, U j k H →
      (L.stop j H ∧ Nx H) ∨ (L.go j H ∧ ∃ Ny : Hp → Prop, (∀ H', Ny H' → ∃ k', k' < k ∧ U (j + 1) k' H') ∧ ∀ x H', L.yld j H x H' → h x (wipe σa ws) H' fun σb He => wipe σb ws = wipe σa ws ∧ uu σb He fun b Hf =>
        if b = true then tk σb Hf fun y Hg => tv σb Hg fun z Hh => ∃ kvs k, y = kV k ∧ DkOr Hh D kvs ∧ kvs.length < sizeLine ∧ Ny (upd Hh D (.dK (putK kvs k z))) else Ny Hf)
    else Nx Hc)
section
variable {X : Cx}
abbrev BlkCx (X : Cx) (scope : Scope) (s : Shared) (H : Hp) (C : Addr) (cl : List (Str × Addr)) (fp : List Addr) : Cx := X.blk s H scope (compEnvC scope cl C X.env) fp
abbrev AllB (X : Cx) (scope : Scope) (F : Cx → Prop) : Prop := ∀ (s : Shared) (H : Hp) (C : Addr) (cl : List (Str × Addr)) (fp : List Addr), F (BlkCx X scope s H C cl fp)
theorem dc2_core {pins : List (Addr × Obj)} {s : Shared} {σ : St} {H : Hp} {Q : VK} {pos' : Pos} {use : Option (Value → Sem Unit)} {Qf : Value → Shared → Prop} {kx vx t0 i0 t1 i1 : Expr} {f0 f1 : List Expr} {scope : Scope} {own : List (Str × Nat)} {ws : List Nat} {pos : Pos} {wi wj : TI} {g h : TG} {tt uu : TT} {tk tv : TE}
    (hc : X.calm = true) (hN : X.N.Nodup) (hi : PI X t0 i0 wi) (ok : BlkOk X.N X.env.scope scope own) (hv : ∀ i ∈ ws, i ∈ own.map (·.2))
    (hg : AllB X scope fun Y => PG Y t0 g) (ht : AllB X scope fun Y => PTs Y f0 tt) (hj : AllB X scope fun Y => PI Y t1 i1 wj) (hh : AllB X scope fun Y => PG Y t1 h) (hu : AllB X scope fun Y => PTs Y f1 uu)
    (hk : AllB X scope fun Y => PE Y kx tk) (he : AllB X scope fun Y => PE Y vx tv) (hs : ∀ x, foldedSetIterable i0 X.env x = pure x) (hs1 : ∀ env x, foldedSetIterable i1 env x = pure x)
    (I : Inv X pins σ H s) (rd : tDc2 wi g tt wj h uu tk tv (own.map (·.2)) ws σ H Q)
    (ends : ∀ (D C : Addr) (s' : Shared) (m : Str → Option Value) (H' : Hp), Inv X pins σ H' s' → Q (.ref D) H' → s'.heap.Ns C m → FpOk X pins H' C → compPost (model X.prog X.w) X.A X.xe use Qf (.ref D) C (.ok .next) s') :
    wpAny (model X.prog X.w) X.A (comprehension (DC2 kx vx t0 i0 t1 i1 f0 f1 scope pos) scope X.env pos' newDict false (eval i0 X.env) use) Qf X.xe s := by
  have free : ∀ y ∈ scope.names, y.2 = .free → ∃ c, X.env.cells.lookup y.1 = some c := fun y hy e => by
    rcases ok.free y hy e with k | k
    · exact I.ok.has _ (.inl k)
    · exact I.ok.has _ (.inr k)
  refine wpAny_comprehension_free (use := use) rfl hs (closure_ok free) ok.kind (fun y hy e => by rw [ok.uniq y hy, e]) (thn (hi.run pins s σ H _ I rd) fun xv sa hx => thn hx fun itv sb hb => ?_)
  obtain ⟨it, fp, tn, J, Hb, rfl, Ib, T, stb, fb, q⟩ := hb
  refine wpAny_newObj_type (newEnv_comp ?_)
  generalize eD : sb.heap.objs.size = D
  have nD : Hb D = none := Ib.hok.fresh (Nat.le_of_eq eD)
  obtain ⟨W, ⟨mw, w0⟩, turn⟩ := q D nD
  generalize esc : ({ sb with heap := sb.heap.push { cls := .type "dict", data := .dict #[] } } : Shared) = sc
  have Ic : Inv X pins σ (upd Hb D (.dK [])) sc := by
    rw [← esc]
    refine Ib.laid (t' := sb.toks) (fun b o e => Heap.get?_push_of_some _ e) (Nat.le_of_eq eD) ?_
    rw [← eD]; exact dk_empty sb.heap Ib.big
  have hsc : sc.heap = sb.heap.push { cls := .type "dict", data := .dict #[] } := by rw [← esc]
  have lt : ∀ b ∈ fp, b < sb.heap.objs.size := fun b m => by
    obtain ⟨o, e, _⟩ := T.obj _ _ stb b m
    exact Heap.lt_size e
  have fc : ∀ b ∈ fp, FpOk X pins (upd Hb D (.dK [])) b ∧ b < sc.heap.objs.size := fun b m => by
    refine ⟨⟨?_, (fb b m).2⟩, by rw [hsc, Heap.size_push]; exact Nat.lt_succ_of_lt (lt b m)⟩
    rw [upd_ne (by rw [← eD]; exact Nat.ne_of_lt (lt b m))]
    exact (fb b m).1
  have stc : tn 0 sc.heap := T.keep _ _ _ stb fun b _ o e => by rw [hsc]; exact Heap.get?_push_of_some _ e
  have Id := block_start Ic ok hN fc
  let cl := cellsFrom (sc.heap.objs.size + 1) scope.names (cloFrom X.env.cells scope.names [])
  have pg : PG (X.blk sc (upd Hb D (.dK [])) scope (compEnvC scope cl sc.heap.objs.size X.env) fp) t0 g := hg sc (upd Hb D (.dK [])) sc.heap.objs.size cl fp
  have pt : PTs (X.blk sc (upd Hb D (.dK [])) scope (compEnvC scope cl sc.heap.objs.size X.env) fp) f0 tt := ht sc (upd Hb D (.dK [])) sc.heap.objs.size cl fp
  have pj : PI (X.blk sc (upd Hb D (.dK [])) scope (compEnvC scope cl sc.heap.objs.size X.env) fp) t1 i1 wj := hj sc (upd Hb D (.dK [])) sc.heap.objs.size cl fp
  have ph : PG (X.blk sc (upd Hb D (.dK [])) scope (compEnvC scope cl sc.heap.objs.size X.env) fp) t1 h := hh sc (upd Hb D (.dK [])) sc.heap.objs.size cl fp
  have pu : PTs (X.blk sc (upd Hb D (.dK [])) scope (compEnvC scope cl sc.heap.objs.size X.env) fp) f1 uu := hu sc (upd Hb D (.dK [])) sc.heap.objs.size cl fp
  have pk : PE (X.blk sc (upd Hb D (.dK [])) scope (compEnvC scope cl sc.heap.objs.size X.env) fp) kx tk := hk sc (upd Hb D (.dK [])) sc.heap.objs.size cl fp
  have pe : PE (X.blk sc (upd Hb D (.dK [])) scope (compEnvC scope cl sc.heap.objs.size X.env) fp) vx tv := he sc (upd Hb D (.dK [])) sc.heap.objs.size cl fp
  show codeAny _ _ (.compStart (DC2 kx vx t0 i0 t1 i1 f0 f1 scope pos) 0 (.ref it) (.ref D) (compEnvC scope cl sc.heap.objs.size X.env)) (compPost (model X.prog X.w) X.A X.xe use Qf (.ref D) sc.heap.objs.size) { sc with heap := pushCells (sc.heap.push { cls := .type "dict", data := .dict #[] }) scope.names }
  have nfp : ∀ b ∈ fp, (upd Hb D (.dK [])) b = none := fun b m => (fc b m).1.1
  generalize ece : compEnvC scope cl sc.heap.objs.size X.env = ce at Id pg pt pj ph pu pk pe ⊢
  have cL : ce.locals = sc.heap.objs.size := by subst ece; rfl
  generalize eHc : upd Hb D (.dK []) = Hc at Ic Id pg pt pj ph pu pk pe w0 nfp fc
  generalize esd : ({ sc with heap := pushCells (sc.heap.push { cls := .type "dict", data := .dict #[] }) scope.names } : Shared) = sd at Id ⊢
  have std : tn 0 sd.heap := T.keep _ _ _ stc fun b _ o e => by rw [← esd]; exact pushCells_keeps _ _ _ _ (Heap.get?_push_of_some _ e)
  have stat : ∀ {σ' : St} {H' : Hp} {s' : Shared}, Inv (X.blk sc Hc scope ce fp) [] σ' H' s' → (∀ b ∈ fp, H' b = none) → ∀ b ∈ fp, FpOk (X.blk sc Hc scope ce fp) [] H' b := fun {σ' H' s'} I' hn b m =>
    ⟨hn b m, (I'.ok.exf b m).1, I'.ok.exfs b m, .inl m, fun x c e => (I'.ok.exf b m).2 x c e, fun p hp => absurd (show p ∈ ([] : List (Addr × Obj)) ++ [] from hp) (by simp)⟩
  have loop : codeAny (model X.prog X.w) X.A (.compLoop (DC2 kx vx t0 i0 t1 i1 f0 f1 scope pos) 0 (.ref it) (.ref D) ce) (compPost (model X.prog X.w) X.A X.xe use Qf (.ref D) sc.heap.objs.size) sd := by
    refine dc2_loop0 (hs1 ce) (fun n s' => ∃ i H', Inv (X.blk sc Hc scope ce fp) [] (wipe σ (own.map (·.2))) H' s' ∧ tn i s'.heap ∧ (∀ b ∈ fp, H' b = none) ∧ W i n H') ?_ mw ⟨0, Hc, Id, std, nfp, w0⟩
    rintro n se ⟨i, He, Ie, ste, ne, we⟩
    rcases turn i n He we with ⟨stop, qq⟩ | ⟨go, Nx, hNx, step⟩
    · refine thnF (T.done (X.blk sc Hc scope ce fp) rfl rfl rfl hc i [] se _ He (fun _ _ => False) Ie (stat Ie ne) ste stop) fun r sf ⟨hr, If⟩ => ?_
      subst hr
      have Ig : Inv X pins σ He sf := Ic.call' (ch := fp) If.os If.base If.hok If.bare fun b m => ⟨(fc b m).1.2.2.2.1, (fc b m).1.2.1, (fc b m).1.2.2.2.2.1, (fc b m).1.2.2.2.2.2⟩
      have nC : He sc.heap.objs.size = none := by have z : He ce.locals = none := If.free; rwa [cL] at z
      obtain ⟨m, hn, _⟩ := If.loc
      have hn : sf.heap.Ns ce.locals m := hn
      rw [cL] at hn
      exact ends D _ sf m He Ig qq hn (Ic.fpOk (Nat.le_refl _) nC)
    · refine thnF (T.item (X.blk sc Hc scope ce fp) rfl rfl rfl hc i [] se _ He (fun _ _ => False) Ie (stat Ie ne) ste go) fun r sf ⟨u, hr, hf⟩ => ?_
      subst hr
      refine thnF hf fun _ sg ⟨x, Hg, Ig, rg, yg, stg, ng⟩ => ?_
      have Ig' := Ig.pinned (stat Ig ng) (T.obj _ _ stg)
      refine thnF (pg.run _ sg _ Hg x u _ Ig' rg (step x Hg yg)) fun _ sh ⟨σh, Hh, Ih, hwh, qh⟩ => ?_
      refine thnF (pt.run _ sh σh Hh _ Ih qh) fun b sj ⟨Hj, Ij, qj⟩ => ?_
      -- the turn's end
      have fin : ∀ {σ9 : St} {s' : Shared} {H' : Hp}, Inv (X.blk sc Hc scope ce fp) ([] ++ pinsAt fp sg.heap) σ9 H' s' → (wipe σ (own.map (·.2))).length = σ9.length → (∀ (j : Nat) v, (wipe σ (own.map (·.2)))[j]? = some (some v) → σ9[j]? = some (some v)) → Nx H' →
          ∃ m, m < n ∧ ∃ i H', Inv (X.blk sc Hc scope ce fp) [] (wipe σ (own.map (·.2))) H' s' ∧ tn i s'.heap ∧ (∀ b ∈ fp, H' b = none) ∧ W i m H' := fun {σ9 s' H'} I' hl hkk nx => by
        obtain ⟨m', hm, w'⟩ := hNx H' nx
        have pin' : ∀ b ∈ fp, ∀ o, sg.heap.get? b = some o → s'.heap.get? b = some o ∧ H' b = none := fun b m o e =>
          let z := I'.pin (b, o) (List.mem_append_right _ (List.mem_append_right _ (mem_pinsAt m e)))
          ⟨z.1, z.2.1⟩
        refine ⟨m', hm, i + 1, H', (I'.unpinned (pins := [])).weak hl hkk, T.keep _ _ _ stg fun b m o e => (pin' b m o e).1, fun b m => ?_, w'⟩
        obtain ⟨o, e, _⟩ := T.obj _ _ stg b m
        exact (pin' b m o e).2
      have hlh : (wipe σ (own.map (·.2))).length = σh.length := by rw [← hwh, wipe_length]
      have hkh : ∀ (j : Nat) v, (wipe σ (own.map (·.2)))[j]? = some (some v) → σh[j]? = some (some v) := fun j v e => by rw [← hwh] at e; exact (wipe_some e).1
      have hki : ∀ (j : Nat) v, (wipe σ (own.map (·.2)))[j]? = some (some v) → (wipe σh ws)[j]? = some (some v) := fun j v e => by
        rw [← hwh] at e
        obtain ⟨e1, e2⟩ := wipe_some e
        rw [wipe_out fun z => e2 (hv j z)]
        exact e1
      cases b with
      | false =>
        simp only [Bool.false_eq_true, if_false] at qj ⊢
        exact fin Ij hlh hkh qj
      | true =>
        simp only [if_true] at qj ⊢
        refine thnF (pj.run _ sj σh Hj _ Ij qj) fun xv sk hx => thnF hx fun itv sl hl => ?_
        obtain ⟨jt, gp, tm, L, Hl, rfl, Il, TL, stl, fl, U, ⟨mu, u0⟩, turnL⟩ := hl
        have statL : ∀ {H' : Hp}, (∀ b ∈ gp, H' b = none) → ∀ b ∈ gp, FpOk (X.blk sc Hc scope ce fp) ([] ++ pinsAt fp sg.heap) H' b := fun hn b m => ⟨hn b m, (fl b m).2⟩
        have loopL : codeAny (model X.prog X.w) X.A (.compLoop (DC2 kx vx t0 i0 t1 i1 f0 f1 scope pos) 1 (.ref jt) (.ref D) ce) (fun r s' => match r with
              | .ok _ => ∃ m, m < n ∧ ∃ i H', Inv (X.blk sc Hc scope ce fp) [] (wipe σ (own.map (·.2))) H' s' ∧ tn i s'.heap ∧ (∀ b ∈ fp, H' b = none) ∧ W i m H'
              | .error _ => False) sl := by
          refine dc2_loop1 (fun k s' => ∃ j H', Inv (X.blk sc Hc scope ce fp) ([] ++ pinsAt fp sg.heap) (wipe σh ws) H' s' ∧ tm j s'.heap ∧ (∀ b ∈ gp, H' b = none) ∧ U j k H') ?_ mu ⟨0, Hl, Il.weak (wipe_length _ _) (fun j v e => (wipe_some e).1), stl, fun b m => (fl b m).1, u0⟩
          rintro k sm ⟨j, Hm, Im, stm, nm, um⟩
          rcases turnL j k Hm um with ⟨stopL, nx⟩ | ⟨goL, Ny, hNy, stepL⟩
          · refine thnF (TL.done (X.blk sc Hc scope ce fp) rfl rfl rfl hc j _ sm (wipe σh ws) Hm (fun _ _ => False) Im (statL nm) stm stopL) fun r sn ⟨hr, In⟩ => ?_
            subst hr
            exact fin In (hlh.trans (wipe_length σh ws).symm) hki nx
          · refine thnF (TL.item (X.blk sc Hc scope ce fp) rfl rfl rfl hc j _ sm (wipe σh ws) Hm (fun _ _ => False) Im (statL nm) stm goL) fun r sn ⟨ul, hr, hn⟩ => ?_
            subst hr
            refine thnF hn fun _ so ⟨xl, Ho, Io, ro, yo, sto, no⟩ => ?_
            have Io' := Io.pinned (statL no) (TL.obj _ _ sto)
            refine thnF (ph.run _ so (wipe σh ws) Ho xl ul _ Io' ro (stepL xl Ho yo)) fun _ sp ⟨σp, Hp', Ip, hwp, qp⟩ => ?_
            refine thnF (pu.run _ sp σp Hp' _ Ip qp) fun bl sq ⟨Hq, Iq, qq⟩ => ?_
            have finL : ∀ {s' : Shared} {H' : Hp}, Inv (X.blk sc Hc scope ce fp) (([] ++ pinsAt fp sg.heap) ++ pinsAt gp so.heap) σp H' s' → Ny H' → ∃ m, m < k ∧ ∃ j H', Inv (X.blk sc Hc scope ce fp) ([] ++ pinsAt fp sg.heap) (wipe σh ws) H' s' ∧ tm j s'.heap ∧ (∀ b ∈ gp, H' b = none) ∧ U j m H' := fun {s' H'} I' nx => by
              obtain ⟨m', hm, w'⟩ := hNy H' nx
              have pin' : ∀ b ∈ gp, ∀ o, so.heap.get? b = some o → s'.heap.get? b = some o ∧ H' b = none := fun b m o e =>
                let z := I'.pin (b, o) (List.mem_append_right _ (List.mem_append_right _ (mem_pinsAt m e)))
                ⟨z.1, z.2.1⟩
              refine ⟨m', hm, j + 1, H', I'.unpinned.weak (by rw [← hwp, wipe_length]) (fun j v e => by rw [← hwp] at e; exact (wipe_some e).1), TL.keep _ _ _ sto fun b m o e => (pin' b m o e).1, fun b m => ?_, w'⟩
              obtain ⟨o, e, _⟩ := TL.obj _ _ sto b m
              exact (pin' b m o e).2
            cases bl with
            | false =>
              simp only [Bool.false_eq_true, if_false] at qq ⊢
              exact finL Iq qq
            | true =>
              simp only [if_true] at qq ⊢
              refine thnF (pk.run _ sq σp Hq _ Iq qq) fun z sr ⟨yk, Hr, Ir, rr, qr⟩ => ?_
              refine thnF (pe.run _ sr σp Hr _ Ir qr) fun z2 st ⟨yv, Ht, It, rt, kvs, kk, ek, hD, hz, nx⟩ => ?_
              subst ek
              exact d_set1 (X := X.blk sc Hc scope ce fp) It hD hz rr rt fun sv Iv => finL Iv nx
        exact dc2_start1 loopL (TL.self X.A 0 _ _ _ stl loopL)
  exact codeAny_compStart_dict loop (T.self X.A 0 _ _ _ std loop)
theorem pe_dc2 {kx vx t0 i0 t1 i1 : Expr} {f0 f1 : List Expr} {scope : Scope} {own : List (Str × Nat)} {ws : List Nat} {pos : Pos} {wi wj : TI} {g h : TG} {tt uu : TT} {tk tv : TE}
    (hc : X.calm = true) (hN : X.N.Nodup) (hi : PI X t0 i0 wi) (ok : BlkOk X.N X.env.scope scope own) (hv : ∀ i ∈ ws, i ∈ own.map (·.2))
    (hg : AllB X scope fun Y => PG Y t0 g) (ht : AllB X scope fun Y => PTs Y f0 tt) (hj : AllB X scope fun Y => PI Y t1 i1 wj) (hh : AllB X scope fun Y => PG Y t1 h) (hu : AllB X scope fun Y => PTs Y f1 uu)
    (hk : AllB X scope fun Y => PE Y kx tk) (he : AllB X scope fun Y => PE Y vx tv) (hs : ∀ x, foldedSetIterable i0 X.env x = pure x) (hs1 : ∀ env x, foldedSetIterable i1 env x = pure x) :
    PE X (DC2 kx vx t0 i0 t1 i1 f0 f1 scope pos) (tDc2 wi g tt wj h uu tk tv (own.map (·.2)) ws) := by
  refine ⟨fun pins s σ H Q I rd => ?_⟩
  rw [arm_eval_DictComp]
  refine dc2_core hc hN hi ok hv hg ht hj hh hu hk he hs hs1 I rd fun D C s' m H' I' qq hn ff => ?_
  obtain ⟨x0, x1, x2, x3, x4, x5⟩ := ff
  exact ⟨m, hn, fun h'' sb => ⟨.ref D, H', I'.turned (t' := s'.toks) (fun b o hb e => (sb.2 b hb).trans e) x0 x1 x3 x4 x5, rfl, qq⟩⟩
theorem ps_setDc2 {i : Nat} {y : Str} {py spos : Pos} {kx vx t0 i0 t1 i1 : Expr} {f0 f1 : List Expr} {scope : Scope} {own : List (Str × Nat)} {ws : List Nat} {pos : Pos} {wi wj : TI} {g h : TG} {tt uu : TT} {tk tv : TE}
    (hc : X.calm = true) (hN : X.N.Nodup) (hy : X.N[i]? = some y) (hyl : X.env.scope.names.lookup y = some .local)
    (hsw : swapsWith (DC2 kx vx t0 i0 t1 i1 f0 f1 scope pos) (some (.Name y py)) spos.line X.env = pure true) (hi : PI X t0 i0 wi) (ok : BlkOk X.N X.env.scope scope own) (hv : ∀ i ∈ ws, i ∈ own.map (·.2))
    (hg : AllB X scope fun Y => PG Y t0 g) (ht : AllB X scope fun Y => PTs Y f0 tt) (hj : AllB X scope fun Y => PI Y t1 i1 wj) (hh : AllB X scope fun Y => PG Y t1 h) (hu : AllB X scope fun Y => PTs Y f1 uu)
    (hk : AllB X scope fun Y => PE Y kx tk) (he : AllB X scope fun Y => PE Y vx tv) (hs : ∀ x, foldedSetIterable i0 X.env x = pure x) (hs1 : ∀ env x, foldedSetIterable i1 env x = pure x) :
    PS X (.Assign [.Name y py] (DC2 kx vx t0 i0 t1 i1 f0 f1 scope pos) spos) (tAsg (tDc2 wi g tt wj h uu tk tv (own.map (·.2)) ws) (gName i)) := by
  refine ⟨fun pins s σ H E I rd => ?_⟩
  rw [exec_Assign_Name_used _ _ _ _ hsw]
  refine wpAny_bind (wpAny_standAt (wpAny_bind ?_))
  show wpAny _ X.A (do let _ ← comprehension (DC2 kx vx t0 i0 t1 i1 f0 f1 scope pos) scope X.env (firstIterPos [⟨t0, i0, f0, 0⟩, ⟨t1, i1, f1, 0⟩] pos) newDict false (eval i0 X.env) (some (assign (.Name y py) X.env))) _ _ s
  have rd : tDc2 wi g tt wj h uu tk tv (own.map (·.2)) ws σ H (fun x H1 => gName i x σ H1 E.nx) := rd
  refine wpAny_bind (thn (dc2_core (Qf := fun _ s' => SP X pins E .next s') hc hN hi ok hv hg ht hj hh hu hk he hs hs1 I rd fun D C s' m H' I' q hn ff => ?_) fun _ s' hq => wpAny_pure (wpAny_pure hq))
  show wpAny _ _ (assign (.Name y py) X.env (.ref D)) _ _ _
  obtain ⟨x0, x1, x2, x3, x4, x5⟩ := ff
  refine wpAny_assign_Name (store_ok2 (v := V.ref D) I' hN hy (.inl hyl) rfl (fun s2 I2 ⟨a, sb, ha⟩ => ?_) (.inr hyl))
  have ne : C ≠ a := by
    rcases ha with z | z
    · rw [z]; exact x1
    · exact fun e => x4 y a z e.symm
  exact ⟨m, hn.sameBut sb ne, fun h3 sb3 => ⟨_, H', I2.turned (t' := s2.toks) (fun b o hb e => (sb3.2 b hb).trans e) x0 x1 x3 x4 x5, q⟩⟩
end
/-! ### .. read -/
def dcIn (h : RG) (uu : RT) (tk tv : RE) (Pd : Own → Prop) (Gw : DG) (R : List (D × D) → Own → Prop) : List D → List (D × D) → Own → Prop
  | [], acc, S => Pd S ∧ R acc S
  | x :: r, acc, S => Pd S ∧ h x Gw S fun G1 S1 => uu G1 S1 fun b S2 => if b = true then tk G1 S2 fun k S3 => tv G1 S3 fun v S4 => keyB1 k = true ∧ kindD acc k = true ∧ acc.length < sizeLine ∧ dcIn h uu tk tv Pd Gw R r (putD acc k v) S4 else dcIn h uu tk tv Pd Gw R r acc S2
def dcOut (g : RG) (tt : RT) (tj : RI) (h : RG) (uu : RT) (tk tv : RE) (ws : List Nat) (Pd : Own → Prop) (Gw : DG) (R : List (D × D) → Own → Prop) : List D → List (D × D) → Own → Prop
  | [], acc, S => Pd S ∧ R acc S
  | x :: r, acc, S => Pd S ∧ g x Gw S fun G1 S1 => tt G1 S1 fun b S2 => if b = true then tj G1 S2 fun items Pe S3 => dcIn h uu tk tv Pe (wipeD G1 ws) (fun acc S4 => dcOut g tt tj h uu tk tv ws Pd Gw R r acc S4) items acc S3 else dcOut g tt tj h uu tk tv ws Pd Gw R r acc S2
def dDc2 (ti : RI) (g : RG) (tt : RT) (tj : RI) (h : RG) (uu : RT) (tk tv : RE) (vs ws : List Nat) : RE := fun G S R => ti G S fun items Pd S1 => dcOut g tt tj h uu tk tv ws Pd (wipeD G vs) (fun acc S2 => R (.dct acc) S2) items [] S1
structure DcAt (K : PySem.W.Frag) (B : Bs) (H0 : Hp) (S0 : Own) (L : Addr) (acc : List (D × D)) (H : Hp) (S : Own) : Prop where
  own : Owns K H (over S (B.z.put L (.dct acc)))
  dis : Dis S (B.z.put L (.dct acc))
  fr : Fr H0 (ov B S0) H (over S (B.z.put L (.dct acc)))
theorem own_dk {K : PySem.W.Frag} {H : Hp} {T : Own} {L : Addr} {acc : List (D × D)} {k : D} (W : Owns K H T) (hT : T L = some (.dct acc)) (hk : keyB1 k = true) (hi : kindD acc k = true) : ∃ kvs, DkOr H L kvs ∧ RepK K H T kvs acc := by
  rcases W L _ hT with ⟨kvs, h, r⟩ | ⟨kvs, h, r⟩
  · exact ⟨kvs, .inl h, r⟩
  · cases r with
    | nil => exact ⟨[], .inr ⟨rfl, h⟩, .nil⟩
    | cons _ _ =>
      obtain ⟨q, rfl⟩ := keyB1_of hk
      exact absurd hi (by cases q <;> simp [kindD, tupB, keyD])
theorem own_put_dk {K : PySem.W.Frag} {H : Hp} {T : Own} {L : Addr} {acc : List (D × D)} {kvs : List (Key × V)} {k : Key} {y : V} {v : D} (W : Owns K H T) (h : T L = some (.dct acc)) (r : RepK K H T kvs acc) (hy : Rep K H T y v) :
    Owns K (upd H L (.dK (putK kvs k y))) (T.put L (.dct (putD acc (keyD k) v))) ∧ Fr H T (upd H L (.dK (putK kvs k y))) (T.put L (.dct (putD acc (keyD k) v))) := by
  have f : Fr H T (upd H L (.dK (putK kvs k y))) (T.put L (.dct (putD acc (keyD k) v))) := fr_write h
  exact ⟨W.write h (.inl ⟨_, upd_same, (r.put k hy).fr f⟩), f⟩
theorem dis_reset {B : Bs} {L : Addr} {acc : List (D × D)} {S : Own} {o : SO} (d : Dis S (B.z.put L o)) : Dis S (B.z.put L (.dct acc)) := fun b u e => by
  have ne : b ≠ L := Own.ne_of e d.hid
  have h7 : (B.z.put L o) b = none := d b u e
  rw [Own.put_ne ne] at h7 ⊢
  exact h7
theorem hid_put {S Z : Own} {L : Addr} {o u : SO} (h : S L = none) : over S (Z.put L u) = (over S (Z.put L o)).put L u := by rw [over_putZ h, over_putZ h, Own.put_put]
section
variable {X : Cx} {B : Bs}
abbrev AllJ (X : Cx) (scope : Scope) (F : Cx → Bs → Prop) : Prop := ∀ (B' : Bs) (s : Shared) (H : Hp) (C : Addr) (cl : List (Str × Addr)) (fp : List Addr), F (BlkCx X scope s H C cl fp) B'
def liftIs (K : PySem.W.Frag) (t : RI) : TI := fun σ H Q => ∃ B, liftI K B t σ H Q
theorem dc2_lift {K : PySem.W.Frag} {vs ws : List Nat} {ti tj : RI} {g h : RG} {tt uu : RT} {tk tv : RE} {σ : St} {H : Hp} {G : DG} {S : Own} {R : List (D × D) → Own → Prop} {Q : VK} (A : At K B H S G σ)
    (q : ti G S fun items Pd S1 => dcOut g tt tj h uu tk tv ws Pd (wipeD G vs) R items [] S1)
    (k : ∀ L acc H' S', R acc S' → At K B H' S' G σ → Fr H (ov B S) H' (ov B S') → DicAt K H' (ov B S') L acc → (ov B S') L = none → Q (.ref L) H') :
    tDc2 (liftI K B ti) (liftGu K vs g) (liftTs K tt) (liftIs K tj) (liftGu K ws h) (liftTs K uu) (liftEs K tk) (liftEs K tv) vs ws σ H Q := by
  refine ⟨G, S, _, A, q, fun J items Pd Gd H1 S1 q1 f1 A1 T g1 => ?_⟩
  intro L hL
  have hz : B.z L = none := (A1.free hL).2
  have hs1 : S1 L = none := (A1.free hL).1
  have e1 : over S1 (B.z.put L (.dct [])) = (ov B S1).put L (.dct []) := over_putZ hs1
  have start : DcAt K B H1 S1 L [] (upd H1 L (.dK [])) S1 := by
    refine ⟨by rw [e1]; exact A1.own.laidO hL (.inl ⟨[], upd_same, .nil⟩), A1.dis.putZ hs1, by rw [e1]; exact fr_laidO hL⟩
  refine ⟨fun i m H2 => m = items.length - i ∧ i ≤ items.length ∧ ∃ S2 acc, DcAt K B H1 S1 L acc H2 S2 ∧ REnv K H2 (over S2 (B.z.put L (.dct acc))) G σ ∧ Gd H2 (over S2 (B.z.put L (.dct acc))) ∧ dcOut g tt tj h uu tk tv ws Pd (wipeD G vs) R (items.drop i) acc S2,
    ⟨items.length, by simp, Nat.zero_le _, S1, [], start, by rw [e1]; exact A1.env.fr (fr_laidO hL), by rw [e1]; exact T.keep _ _ _ _ g1 (fr_laidO hL), q1⟩, ?_⟩
  rintro i m H2 ⟨rfl, hi, S2, acc, A2, E2, D2, q2⟩
  have hs2 : S2 L = none := A2.dis.hid
  by_cases hlt : i < items.length
  · rw [List.drop_eq_getElem_cons hlt] at q2
    obtain ⟨pd, q2⟩ := q2
    refine .inr ⟨T.go i H2 S2 _ D2 pd A2.own hlt, fun H3 => ∃ S3 acc', DcAt K B H1 S1 L acc' H3 S3 ∧ REnv K H3 (over S3 (B.z.put L (.dct acc'))) G σ ∧ Gd H3 (over S3 (B.z.put L (.dct acc'))) ∧ dcOut g tt tj h uu tk tv ws Pd (wipeD G vs) R (items.drop (i + 1)) acc' S3,
      fun H3 h3 => ⟨items.length - (i + 1), by omega, rfl, hlt, h3⟩, fun x H3 y => ?_⟩
    obtain ⟨d, ed, f3, W3, h3⟩ := T.yld i x H2 H3 S2 _ D2 pd A2.own hlt y
    have ed' : d = items[i] := by
      rw [List.getElem?_eq_getElem hlt] at ed
      exact (Option.some.inj ed).symm
    subst ed'
    refine ⟨⟨H3, S2, B.z.put L (.dct acc)⟩, wipeD G vs, S2, _, _, ⟨W3, wipeD_env (E2.fr f3) vs, Fr.refl _ _, A2.dis⟩, h3, q2, fun G4 S4 σ4 H4 q4 f4 A4 w4 => ?_⟩
    refine ⟨by rw [w4]; exact wipe_wipe σ vs, ⟨H3, S2, B.z.put L (.dct acc)⟩, G4, S4, _, A4, q4, fun b H5 ⟨S5, q5, f5, A5⟩ => ?_⟩
    have f345 := f3.trans (f4.trans f5)
    cases b with
    | false => exact ⟨S5, acc, ⟨A5.own, A5.dis, A2.fr.trans f345⟩, E2.fr f345, T.keep _ _ _ _ D2 f345, q5⟩
    | true =>
      -- the inner loop
      simp only [if_true] at q5 ⊢
      refine ⟨⟨H3, S2, B.z.put L (.dct acc)⟩, G4, S5, _, A5, q5, fun J1 jtems Pe Ge H6 S6 q6 f6 A6 T1 g6 => ?_⟩
      have hs6 : S6 L = none := A6.dis.hid
      refine ⟨fun j k H7 => k = jtems.length - j ∧ j ≤ jtems.length ∧ ∃ S7 acc7, DcAt K B H1 S1 L acc7 H7 S7 ∧ Fr H2 (over S2 (B.z.put L (.dct acc))) H7 (over S7 (B.z.put L (.dct acc7))) ∧ REnv K H7 (over S7 (B.z.put L (.dct acc7))) G4 σ4 ∧ Ge H7 (over S7 (B.z.put L (.dct acc7))) ∧
          dcIn h uu tk tv Pe (wipeD G4 ws) (fun acc S4 => dcOut g tt tj h uu tk tv ws Pd (wipeD G vs) R (items.drop (i + 1)) acc S4) (jtems.drop j) acc7 S7,
        ⟨jtems.length, by simp, Nat.zero_le _, S6, acc, ⟨A6.own, A6.dis, A2.fr.trans (f345.trans f6)⟩, f345.trans f6, A6.env, g6, q6⟩, ?_⟩
      rintro j m H7 ⟨rfl, hj, S7, acc7, A7, F7, E7, D7, q7⟩
      have hs7 : S7 L = none := A7.dis.hid
      by_cases jlt : j < jtems.length
      · rw [List.drop_eq_getElem_cons jlt] at q7
        obtain ⟨pe, q7⟩ := q7
        refine .inr ⟨T1.go j H7 S7 _ D7 pe A7.own jlt, fun H8 => ∃ S8 acc8, DcAt K B H1 S1 L acc8 H8 S8 ∧ Fr H2 (over S2 (B.z.put L (.dct acc))) H8 (over S8 (B.z.put L (.dct acc8))) ∧ REnv K H8 (over S8 (B.z.put L (.dct acc8))) G4 σ4 ∧ Ge H8 (over S8 (B.z.put L (.dct acc8))) ∧
            dcIn h uu tk tv Pe (wipeD G4 ws) (fun acc S4 => dcOut g tt tj h uu tk tv ws Pd (wipeD G vs) R (items.drop (i + 1)) acc S4) (jtems.drop (j + 1)) acc8 S8,
          fun H8 h8 => ⟨jtems.length - (j + 1), by omega, rfl, jlt, h8⟩, fun x1 H8 y1 => ?_⟩
        obtain ⟨d1, ed1, f8, W8, h8⟩ := T1.yld j x1 H7 H8 S7 _ D7 pe A7.own jlt y1
        have ed1' : d1 = jtems[j] := by
          rw [List.getElem?_eq_getElem jlt] at ed1
          exact (Option.some.inj ed1).symm
        subst ed1'
        refine ⟨⟨H8, S7, B.z.put L (.dct acc7)⟩, wipeD G4 ws, S7, _, _, ⟨W8, wipeD_env (E7.fr f8) ws, Fr.refl _ _, A7.dis⟩, h8, q7, fun G9 S9 σ9 H9 q9 f9 A9 w9 => ?_⟩
        refine ⟨by rw [w9]; exact wipe_wipe σ4 ws, ⟨H8, S7, B.z.put L (.dct acc7)⟩, G9, S9, _, A9, q9, fun b1 H10 ⟨S10, q10, f10, A10⟩ => ?_⟩
        have fA := f8.trans (f9.trans f10)
        cases b1 with
        | false => exact ⟨S10, acc7, ⟨A10.own, A10.dis, A7.fr.trans fA⟩, F7.trans fA, E7.fr fA, T1.keep _ _ _ _ D7 fA, q10⟩
        | true =>
          simp only [if_true] at q10 ⊢
          refine ⟨⟨H8, S7, B.z.put L (.dct acc7)⟩, G9, S10, _, A10, q10, fun yk H11 ⟨dk, S11, q11, f11, A11, h11⟩ => ?_⟩
          refine ⟨⟨H8, S7, B.z.put L (.dct acc7)⟩, G9, S11, _, A11, q11, fun yv H12 ⟨dv, S12, ⟨hk, hki, hl, q12⟩, f12, A12, h12⟩ => ?_⟩
          have fB := fA.trans (f11.trans f12)
          have hs12 : S12 L = none := A12.dis.hid
          have o12 : (over S12 (B.z.put L (.dct acc7))) L = some (.dct acc7) := by rw [over_at hs12]; exact Own.put_same
          obtain ⟨kvs, hD, rK⟩ := own_dk A12.own o12 hk hki
          obtain ⟨kk, rfl⟩ := keyB1_of hk
          have ey := rep_key (h11.fr f12)
          subst ey
          obtain ⟨W13, f13⟩ := own_put_dk (k := kk) A12.own o12 rK h12
          have e13 : over S12 (B.z.put L (.dct (putD acc7 (keyD kk) dv))) = (over S12 (B.z.put L (.dct acc7))).put L (.dct (putD acc7 (keyD kk) dv)) := hid_put hs12
          rw [← e13] at W13 f13
          have fC := fB.trans f13
          exact ⟨kvs, kk, rfl, hD, by rw [rK.length]; exact hl, S12, putD acc7 (keyD kk) dv, ⟨W13, dis_reset A12.dis, A7.fr.trans fC⟩, F7.trans fC, E7.fr fC, T1.keep _ _ _ _ D7 fC, q12⟩
      · have e : j = jtems.length := by omega
        subst e
        rw [List.drop_length] at q7
        exact .inl ⟨T1.stop _ H7 S7 _ D7 q7.1 A7.own (Nat.le_refl _), S7, acc7, A7, E2.fr F7, T.keep _ _ _ _ D2 F7, q7.2⟩
  · have e : i = items.length := by omega
    subst e
    rw [List.drop_length] at q2
    refine .inl ⟨T.stop _ H2 S2 _ D2 q2.1 A2.own (Nat.le_refl _), ?_⟩
    have dr : Fr H2 (over S2 (B.z.put L (.dct acc))) H2 (ov B S2) := fr_drop fun x hx => by
      rcases drop_hid (o := .dct acc) hs2 hz x with z | z
      · exact z
      · exact z.trans hx
    have fAll : Fr H1 (ov B S1) H2 (ov B S2) := A2.fr.trans dr
    have W2 : Owns K H2 (ov B S2) := A2.own.drop (drop_hid hs2 hz)
    have dd := DicAt.of_own A2.own (show (over S2 (B.z.put L (.dct acc))) L = some (.dct acc) by rw [over_at hs2]; exact Own.put_same)
    refine k L acc H2 S2 q2.2 ⟨W2, E2.fr dr, A1.fr.trans fAll, dis_out A2.dis hz⟩ (f1.trans fAll) ?_ ((over_at hs2).trans hz)
    rcases dd with ⟨kvs, h, r⟩ | ⟨kvs, h, r⟩
    · exact .inl ⟨kvs, h, r.fr dr⟩
    · exact .inr ⟨kvs, h, r.fr dr⟩
theorem de_dc2 {kx vx t0 i0 t1 i1 : Expr} {f0 f1 : List Expr} {scope : Scope} {own : List (Str × Nat)} {ws : List Nat} {pos : Pos} {ti tj : RI} {g h : RG} {tt uu : RT} {tk tv : RE}
    (hc : X.calm = true) (hN : X.N.Nodup) (hi : JI X B t0 i0 ti) (ok : BlkOk X.N X.env.scope scope own) (hv : ∀ i ∈ ws, i ∈ own.map (·.2))
    (hg : AllJ X scope fun Y B' => JG Y B' (own.map (·.2)) t0 g) (ht : AllJ X scope fun Y B' => JTs Y B' f0 tt) (hj : AllJ X scope fun Y B' => JI Y B' t1 i1 tj) (hh : AllJ X scope fun Y B' => JG Y B' ws t1 h) (hu : AllJ X scope fun Y B' => JTs Y B' f1 uu)
    (hk : AllJ X scope fun Y B' => JE Y B' kx tk) (he : AllJ X scope fun Y B' => JE Y B' vx tv) (hs : ∀ x, foldedSetIterable i0 X.env x = pure x) (hs1 : ∀ env x, foldedSetIterable i1 env x = pure x) :
    JE X B (DC2 kx vx t0 i0 t1 i1 f0 f1 scope pos) (dDc2 ti g tt tj h uu tk tv (own.map (·.2)) ws) :=
  PE.mono (pe_dc2 (wi := liftI X.K B ti) (g := liftGu X.K (own.map (·.2)) g) (tt := liftTs X.K tt) (wj := liftIs X.K tj) (h := liftGu X.K ws h) (uu := liftTs X.K uu) (tk := liftEs X.K tk) (tv := liftEs X.K tv) hc hN hi ok hv
    (fun s H C cl fp => ⟨fun pins s' σ H' v u Q I r ⟨B', q⟩ => (hg B' s H C cl fp).run pins s' σ H' v u Q I r q⟩)
    (fun s H C cl fp => ⟨fun pins s' σ H' Q I ⟨B', q⟩ => PTs.run (ht B' s H C cl fp) pins s' σ H' Q I q⟩)
    (fun s H C cl fp => ⟨fun pins s' σ H' Q I ⟨B', q⟩ => PI.run (hj B' s H C cl fp) pins s' σ H' Q I q⟩)
    (fun s H C cl fp => ⟨fun pins s' σ H' v u Q I r ⟨B', q⟩ => (hh B' s H C cl fp).run pins s' σ H' v u Q I r q⟩)
    (fun s H C cl fp => ⟨fun pins s' σ H' Q I ⟨B', q⟩ => PTs.run (hu B' s H C cl fp) pins s' σ H' Q I q⟩)
    (fun s H C cl fp => ⟨fun pins s' σ H' Q I ⟨B', q⟩ => PE.run (hk B' s H C cl fp) pins s' σ H' Q I q⟩)
    (fun s H C cl fp => ⟨fun pins s' σ H' Q I ⟨B', q⟩ => PE.run (he B' s H C cl fp) pins s' σ H' Q I q⟩) hs hs1)
    fun σ H Q ⟨G, S, R, A, q, k⟩ => dc2_lift A q fun L acc H' S' q A' f d n => by
      refine k _ _ ⟨.dct acc, S', q, f, A', ?_⟩
      rcases d with ⟨kvs, h, r⟩ | ⟨kvs, h, r⟩
      · exact .dk ⟨h, n⟩ r
      · exact .dt ⟨h, n⟩ r
theorem ds_setDc2 {i : Nat} {y : Str} {py spos : Pos} {kx vx t0 i0 t1 i1 : Expr} {f0 f1 : List Expr} {scope : Scope} {own : List (Str × Nat)} {ws : List Nat} {pos : Pos} {ti tj : RI} {g h : RG} {tt uu : RT} {tk tv : RE}
    (hc : X.calm = true) (hN : X.N.Nodup) (hy : X.N[i]? = some y) (hyl : X.env.scope.names.lookup y = some .local)
    (hsw : swapsWith (DC2 kx vx t0 i0 t1 i1 f0 f1 scope pos) (some (.Name y py)) spos.line X.env = pure true) (hi : JI X B t0 i0 ti) (ok : BlkOk X.N X.env.scope scope own) (hv : ∀ i ∈ ws, i ∈ own.map (·.2))
    (hg : AllJ X scope fun Y B' => JG Y B' (own.map (·.2)) t0 g) (ht : AllJ X scope fun Y B' => JTs Y B' f0 tt) (hj : AllJ X scope fun Y B' => JI Y B' t1 i1 tj) (hh : AllJ X scope fun Y B' => JG Y B' ws t1 h) (hu : AllJ X scope fun Y B' => JTs Y B' f1 uu)
    (hk : AllJ X scope fun Y B' => JE Y B' kx tk) (he : AllJ X scope fun Y B' => JE Y B' vx tv) (hs : ∀ x, foldedSetIterable i0 X.env x = pure x) (hs1 : ∀ env x, foldedSetIterable i1 env x = pure x) :
    JS X B (.Assign [.Name y py] (DC2 kx vx t0 i0 t1 i1 f0 f1 scope pos) spos) (dSet i (dDc2 ti g tt tj h uu tk tv (own.map (·.2)) ws)) :=
  PS.mono (ps_setDc2 (wi := liftI X.K B ti) (g := liftGu X.K (own.map (·.2)) g) (tt := liftTs X.K tt) (wj := liftIs X.K tj) (h := liftGu X.K ws h) (uu := liftTs X.K uu) (tk := liftEs X.K tk) (tv := liftEs X.K tv) hc hN hy hyl hsw hi ok hv
    (fun s H C cl fp => ⟨fun pins s' σ H' v u Q I r ⟨B', q⟩ => (hg B' s H C cl fp).run pins s' σ H' v u Q I r q⟩)
    (fun s H C cl fp => ⟨fun pins s' σ H' Q I ⟨B', q⟩ => PTs.run (ht B' s H C cl fp) pins s' σ H' Q I q⟩)
    (fun s H C cl fp => ⟨fun pins s' σ H' Q I ⟨B', q⟩ => PI.run (hj B' s H C cl fp) pins s' σ H' Q I q⟩)
    (fun s H C cl fp => ⟨fun pins s' σ H' v u Q I r ⟨B', q⟩ => (hh B' s H C cl fp).run pins s' σ H' v u Q I r q⟩)
    (fun s H C cl fp => ⟨fun pins s' σ H' Q I ⟨B', q⟩ => PTs.run (hu B' s H C cl fp) pins s' σ H' Q I q⟩)
    (fun s H C cl fp => ⟨fun pins s' σ H' Q I ⟨B', q⟩ => PE.run (hk B' s H C cl fp) pins s' σ H' Q I q⟩)
    (fun s H C cl fp => ⟨fun pins s' σ H' Q I ⟨B', q⟩ => PE.run (he B' s H C cl fp) pins s' σ H' Q I q⟩) hs hs1)
    fun E σ H ⟨G, S, DD, A, q, k⟩ => dc2_lift (R := fun acc S2 => DD.nx (G.set i (some (.dct acc))) S2) A q fun L acc H' S' q A' f d n => by
      have r : Rep X.K H' (ov B S') (.ref L) (.dct acc) := by
        rcases d with ⟨kvs, h, r⟩ | ⟨kvs, h, r⟩
        · exact .dk ⟨h, n⟩ r
        · exact .dt ⟨h, n⟩ r
      exact k.nx _ S' _ H' q f ⟨A'.own, A'.env.set i r, A'.fr, A'.dis⟩
theorem sw_trueD {kx vx : Expr} {gs : List Comprehension} {scope : Scope} {pos py : Pos} {y : Str} {l : Nat} {env : Env} (fk : env.scope.kind = .function) (ly : env.scope.names.lookup y = some .local) (el : (py.line == pos.line) = true)
    (no : (scope.names.any fun (n, k) => n == y && (k == .local || k == .cell)) = false) : swapsWith (.DictComp kx vx gs scope pos) (some (.Name y py)) l env = pure true := by
  have e1 : env.kindOf y = some .local := ly
  have e2 : env.blockKind = .function := by unfold Env.blockKind; rw [fk]; rfl
  unfold swapsWith
  simp only [e2, e1, no, Expr.pos, el]
  rfl
end
end DL
namespace DL
open PySem PySem.Spec PyProof.Rows L2
/-! ### readings, step by step -/
theorem rEq_pl {d e : D} {S : Own} {R : DVK} (h : plD d = true) (g : plD e = true) (m : plMin d e ≤ 40) (q : R (.bl (eqv d e)) S) : rEqD d e S R :=
  ⟨d, e, .leaf (plD_noref h), .leaf (plD_noref g), by unfold okE; simp [h, g, m], q⟩
theorem rNe_pl {d e : D} {S : Own} {R : DVK} (h : plD d = true) (g : plD e = true) (m : plMin d e ≤ 40) (q : R (.bl (!eqv d e)) S) : rNeD d e S R :=
  ⟨d, e, .leaf (plD_noref h), .leaf (plD_noref g), by unfold okE; simp [h, g, m], by simp [h, g], q⟩
theorem flat0 : ∀ {d : D}, flatD d = true → plD d = true ∧ (toP d).depth = 0
  | .non, _ => ⟨rfl, by simp [toP, PyData.depth]⟩
  | .bl _, _ => ⟨rfl, by simp [toP, PyData.depth]⟩
  | .int _, _ => ⟨rfl, by simp [toP, PyData.depth]⟩
  | .str _, _ => ⟨rfl, by simp [toP, PyData.depth]⟩
  | .ty _, h => nomatch h
  | .tup _, h => nomatch h
  | .lst _, h => nomatch h
  | .dct _, h => nomatch h
  | .ref _, h => nomatch h
theorem un_flat {S : Own} {d d' : D} (h : flatD d = true) (u : Un S d d') : d' = d := by
  cases u with
  | leaf _ => rfl
  | _ => cases h
/-- == of plain values: no more than what it computes -/
theorem rEq_flat {d e : D} {S : Own} {R : DVK} (h : flatD d = true) (g : flatD e = true) : rEqD d e S R = R (.bl (eqv d e)) S := by
  apply propext
  constructor
  · rintro ⟨d', e', u1, u2, _, q⟩
    rw [un_flat h u1, un_flat g u2] at q; exact q
  · intro q
    exact rEq_pl (flat0 h).1 (flat0 g).1 (by unfold plMin; rw [(flat0 h).2]; omega) q
theorem rNe_flat {d e : D} {S : Own} {R : DVK} (h : flatD d = true) (g : flatD e = true) : rNeD d e S R = R (.bl (!eqv d e)) S := by
  apply propext
  constructor
  · rintro ⟨d', e', u1, u2, _, _, q⟩
    rw [un_flat h u1, un_flat g u2] at q; exact q
  · intro q
    exact rNe_pl (flat0 h).1 (flat0 g).1 (by unfold plMin; rw [(flat0 h).2]; omega) q
theorem rEq_ii {i j : Int} {S : Own} {R : DVK} : rEqD (.int i) (.int j) S R = R (.bl (decide (i = j))) S := by
  rw [rEq_flat rfl rfl]; rfl
theorem rEq_ss {x y : Str} {S : Own} {R : DVK} : rEqD (.str x) (.str y) S R = R (.bl (decide (x = y))) S := by
  rw [rEq_flat rfl rfl]
  have : eqv (.str x) (.str y) = decide (x = y) := by
    show (x == y) = _
    by_cases h : x = y
    · subst h; simp
    · rw [decide_eq_false h]; simpa using h
  rw [this]
theorem rNe_ss {x y : Str} {S : Own} {R : DVK} : rNeD (.str x) (.str y) S R = R (.bl (decide (x ≠ y))) S := by
  rw [rNe_flat rfl rfl]
  have : (!(eqv (.str x) (.str y))) = decide (x ≠ y) := by
    show (!(x == y)) = _
    by_cases h : x = y
    · subst h; simp
    · rw [decide_eq_true h]; simpa using h
  rw [this]
theorem rI1_ii {g : Int → Int → D} {i j : Int} {S : Own} {R : DVK} : rI1 g (.int i) (.int j) S R = R (g i j) S := rfl
theorem rI2_ii {C : Int → Int → Prop} {g : Int → Int → D} {i j : Int} {S : Own} {R : DVK} : rI2 C g (.int i) (.int j) S R = (C i j ∧ R (g i j) S) := rfl
theorem ix_lst {ds : List D} {i : Int} {S : Own} {R : DVK} : rIxD (.lst ds) (.int i) S R = ∃ z, atI ds i = some z ∧ R z S := by
  apply propext; constructor
  · rintro ⟨j, z, e, h⟩; cases e; exact ⟨z, h⟩
  · rintro ⟨z, h⟩; exact ⟨i, z, rfl, h⟩
theorem ix_tup {ds : List D} {i : Int} {S : Own} {R : DVK} : rIxD (.tup ds) (.int i) S R = ∃ z, atI ds i = some z ∧ R z S := by
  apply propext; constructor
  · rintro ⟨j, z, e, h⟩; cases e; exact ⟨z, h⟩
  · rintro ⟨z, h⟩; exact ⟨i, z, rfl, h⟩
theorem ix_rl {a : Addr} {ds : List D} {i : Int} {S : Own} {R : DVK} (h : S a = some (.lst ds)) : rIxD (.ref a) (.int i) S R = ∃ z, atI ds i = some z ∧ R z S := by
  apply propext
  unfold rIxD
  simp only [h]
  constructor
  · rintro ⟨j, z, e, h⟩; cases e; exact ⟨z, h⟩
  · rintro ⟨z, h⟩; exact ⟨i, z, rfl, h⟩
theorem ix_dic {d e : D} {es : List (D × D)} {S : Own} {R : DVK} (h : dicOf S d = some es) : rIxD d e S R = (keyB e = true ∧ kindD es e = true ∧ ∃ z, lookD es e = some z ∧ R z S) := by
  unfold dicOf at h
  unfold rIxD
  split at h
  · cases h; rfl
  · split at h
    · rename_i h2; cases h; simp only [h2]
    · rename_i h2; cases h; simp only [h2]
    · cases h
  · cases h
theorem atI_nat {ds : List D} {n : Nat} {z : D} (h : ds[n]? = some z) : atI ds (n : Int) = some z := by
  have hl := (List.getElem?_eq_some_iff.mp h).1
  unfold atI ixN
  rw [if_pos (Int.natCast_nonneg _), if_pos (by exact_mod_cast hl)]
  simpa using h
theorem atI_0 {a : D} {r : List D} : atI (a :: r) 0 = some a := atI_nat (n := 0) rfl
theorem atI_1 {a b : D} {r : List D} : atI (a :: b :: r) 1 = some b := atI_nat (n := 1) rfl
theorem atI_2 {a b c : D} {r : List D} : atI (a :: b :: c :: r) 2 = some c := atI_nat (n := 2) rfl
theorem atI_3 {a b c d : D} {r : List D} : atI (a :: b :: c :: d :: r) 3 = some d := atI_nat (n := 3) rfl
theorem atI_4 {a b c d e : D} {r : List D} : atI (a :: b :: c :: d :: e :: r) 4 = some e := atI_nat (n := 4) rfl
theorem atI_5 {a b c d e f : D} {r : List D} : atI (a :: b :: c :: d :: e :: f :: r) 5 = some f := atI_nat (n := 5) rfl
theorem set_rl {a : Addr} {ds : List D} {i : Int} {z : D} {S : Own} {R : Own → Prop} (h : S a = some (.lst ds)) : rSetD (.ref a) (.int i) z S R = ∃ j, ixN ds.length i = some j ∧ R (S.put a (.lst (ds.set j z))) := by
  apply propext
  unfold rSetD
  simp only [h]
  constructor
  · rintro ⟨j, k, e, h⟩; cases e; exact ⟨k, h⟩
  · rintro ⟨z, h⟩; exact ⟨i, z, rfl, h⟩
theorem set_rd {a : Addr} {es : List (D × D)} {k z : D} {S : Own} {R : Own → Prop} (h : S a = some (.dct es)) : rSetD (.ref a) k z S R = (keyB k = true ∧ kindD es k = true ∧ es.length < sizeLine ∧ R (S.put a (.dct (putD es k z)))) := by
  unfold rSetD
  simp only [h]
theorem len_eq {d : D} {S : Own} {R : DVK} {n : Nat} (h : lenD S d = some n) : rLenD [d] S R = R (.int (n : Nat)) S := by
  apply propext
  constructor
  · rintro ⟨m, e, q⟩
    rw [h] at e; cases e; exact q
  · intro q; exact ⟨n, h, q⟩
theorem len_lst {ds : List D} {S : Own} {R : DVK} : rLenD [.lst ds] S R = R (.int (ds.length : Nat)) S := len_eq rfl
theorem len_tup {ds : List D} {S : Own} {R : DVK} : rLenD [.tup ds] S R = R (.int (ds.length : Nat)) S := len_eq rfl
theorem bl_ex {b : Bool} {R : Bool → Prop} : (∃ k, D.bl b = D.bl k ∧ R k) = R b := by
  apply propext; constructor
  · rintro ⟨k, e, q⟩; cases e; exact q
  · intro q; exact ⟨b, rfl, q⟩
theorem int_ex {b : Int} {R : Int → Prop} : (∃ k, D.int b = D.int k ∧ R k) = R b := by
  apply propext; constructor
  · rintro ⟨k, e, q⟩; cases e; exact q
  · intro q; exact ⟨b, rfl, q⟩
theorem some_ex {z : D} {R : D → Prop} : (∃ k, some z = some k ∧ R k) = R z := by
  apply propext; constructor
  · rintro ⟨k, e, q⟩; cases e; exact q
  · intro q; exact ⟨z, rfl, q⟩
theorem mul_ii {i j : Int} {S : Own} {R : DVK} : rMulD (.int i) (.int j) S R = (CMul i j ∧ R (.int (i * j)) S) := rfl
theorem add_ii {i j : Int} {S : Own} {R : DVK} : rAddD (.int i) (.int j) S R = R (.int (i + j)) S := rfl
theorem add_ll {i j : List D} {S : Own} {R : DVK} : rAddD (.lst i) (.lst j) S R = (i.length + j.length ≤ sizeLine ∧ R (.lst (i ++ j)) S) := rfl
theorem add_tt {i j : List D} {S : Own} {R : DVK} : rAddD (.tup i) (.tup j) S R = (i.length + j.length ≤ sizeLine ∧ R (.tup (i ++ j)) S) := rfl
theorem add_ss {i j : Str} {S : Own} {R : DVK} : rAddD (.str i) (.str j) S R = (i.length + j.length ≤ sizeLine ∧ R (.str (i ++ j)) S) := rfl
theorem augS_eq {to ti te : RE} {r : R2D} {E : DEnds} {G : DG} {S : Own} : dAugS to ti te r E G S = to G S fun d S1 => ti G S1 fun k S2 => ∃ p ds i j z, d = .ref p ∧ S2 p = some (.lst ds) ∧ k = .int i ∧ 0 ≤ i ∧ i = (j : Nat) ∧ ds[j]? = some z ∧ te G S2 fun e S3 => r z e S3 fun z2 S4 => rSetD d k z2 S4 fun S5 => E.nx G S5 := rfl
theorem mul_lt {i j : Int} (h0 : -(2 ^ 64) < j) (h1 : j < 2 ^ 64) : CMul i j := .inr ⟨h0, h1⟩
/-! ### loops, by what holds at each turn -/
theorem forRun_inv {g : RG} {tb : RS} {Pd : Own → Prop} {Dn : DEnds} (J : Nat → DG → Own → Prop) : ∀ {items : List D} {n : Nat} {G : DG} {S : Own}, J n G S →
    (∀ i x G S (K : DG → Own → Prop), items[i]? = some x → J (n + i) G S → (∀ G' S', J (n + (i + 1)) G' S' → K G' S') → Pd S ∧ g x G S fun G1 S1 => tb { nx := K, rt := Dn.rt, bk := Dn.nx, ct := K } G1 S1) →
    (∀ G S, J (n + items.length) G S → Pd S ∧ Dn.nx G S) → forRun g tb Pd Dn items G S
  | [], n, G, S, h0, _, fin => fin G S h0
  | x :: r, n, G, S, h0, step, fin => by
    refine step 0 x G S (forRun g tb Pd Dn r) rfl h0 fun G' S' h => ?_
    refine forRun_inv J (n := n + 1) h (fun i y G S K e hj k => step (i + 1) y G S K e (by rw [show n + (i + 1) = n + 1 + i from by omega]; exact hj) fun G' S' h => k G' S' (by rw [show n + 1 + (i + 1) = n + (i + 1 + 1) from by omega]; exact h)) fun G S h => fin G S (by rw [List.length_cons, show n + (r.length + 1) = n + 1 + r.length from by omega]; exact h)
theorem lcRun_inv {g : RG} {tt : RT} {te : RE} {Pd : Own → Prop} {Gw : DG} {R : List D → Own → Prop} (J : Nat → List D → Own → Prop) : ∀ {items : List D} {n : Nat} {acc : List D} {S : Own}, J n acc S →
    (∀ i acc S, J i acc S → acc.length ≤ i) → n + items.length ≤ sizeLine →
    (∀ i x acc S (K : Option D → Own → Prop), items[i]? = some x → J (n + i) acc S → (∀ d S', J (n + (i + 1)) (acc ++ [d]) S' → K (some d) S') → (∀ S', J (n + (i + 1)) acc S' → K none S') →
      Pd S ∧ g x Gw S fun G1 S1 => tt G1 S1 fun b S2 => if b = true then te G1 S2 fun d S3 => K (some d) S3 else K none S2) →
    (∀ acc S, J (n + items.length) acc S → Pd S ∧ R acc S) → lcRun g tt te Pd Gw R items acc S
  | [], n, acc, S, h0, _, _, _, fin => fin acc S h0
  | x :: r, n, acc, S, h0, hl, hz, step, fin => by
    rw [List.length_cons] at hz
    have more : ∀ {acc' : List D} {S' : Own}, J (n + 1) acc' S' → lcRun g tt te Pd Gw R r acc' S' := fun h =>
      lcRun_inv J (n := n + 1) h hl (by omega) (fun i y acc S K e hj k1 k2 => step (i + 1) y acc S K e (by rw [show n + (i + 1) = n + 1 + i from by omega]; exact hj) (fun d S' h => k1 d S' (by rw [show n + 1 + (i + 1) = n + (i + 1 + 1) from by omega]; exact h)) fun S' h => k2 S' (by rw [show n + 1 + (i + 1) = n + (i + 1 + 1) from by omega]; exact h))
        fun acc S h => fin acc S (by rw [List.length_cons, show n + (r.length + 1) = n + 1 + r.length from by omega]; exact h)
    have lt : acc.length < sizeLine := by have := hl _ _ _ h0; omega
    exact step 0 x acc S (fun o S' => match o with | some d => acc.length < sizeLine ∧ lcRun g tt te Pd Gw R r (acc ++ [d]) S' | none => lcRun g tt te Pd Gw R r acc S') rfl h0 (fun d S' h => ⟨lt, more h⟩) fun S' h => more h
/-- a comprehension that changes nothing -/
theorem lcRun_pure {g : RG} {tt : RT} {te : RE} {Pd : Own → Prop} {Gw : DG} {R : List D → Own → Prop} {items : List D} {S : Own} (f : D → Option D) (hz : items.length ≤ sizeLine) (hp : Pd S)
    (step : ∀ x ∈ items, ∀ K : Option D → Own → Prop, K (f x) S → g x Gw S fun G1 S1 => tt G1 S1 fun b S2 => if b = true then te G1 S2 fun d S3 => K (some d) S3 else K none S2)
    (fin : R (items.filterMap f) S) : lcRun g tt te Pd Gw R items [] S := by
  refine lcRun_inv (n := 0) (fun i acc S' => S' = S ∧ i ≤ items.length ∧ acc = (items.take i).filterMap f) ⟨rfl, Nat.zero_le _, rfl⟩ (fun i acc S' ⟨_, hi, e⟩ => ?_) (by omega) (fun i x acc S' K e ⟨e1, hi, e2⟩ k1 k2 => ?_) fun acc S' ⟨e1, _, e2⟩ => ?_
  · rw [e]; exact Nat.le_trans (List.length_filterMap_le _ _) (by rw [List.length_take]; omega)
  · subst e1
    simp only [Nat.zero_add] at *
    have hlt := (List.getElem?_eq_some_iff.mp e).1
    refine ⟨hp, step x (List.mem_of_getElem? e) K ?_⟩
    have tk : (items.take (i + 1)).filterMap f = acc ++ (f x).toList := by
      rw [List.take_add_one, e, List.filterMap_append, e2]
      cases h : f x <;> simp [h]
    cases h : f x with
    | none => exact k2 S' ⟨rfl, hlt, by rw [tk, h]; simp⟩
    | some d => exact k1 d S' ⟨rfl, hlt, by rw [tk, h]; rfl⟩
  · subst e1
    simp only [Nat.zero_add, List.take_length] at e2
    subst e2
    exact ⟨hp, fin⟩
/-! ### what stays -/
def Keep (S S' : Own) (xs : List Addr) : Prop := ∀ a o, S a = some o → a ∉ xs → S' a = some o
theorem Keep.refl (S : Own) (xs : List Addr) : Keep S S xs := fun _ _ h _ => h
theorem Keep.trans {S S1 S2 : Own} {xs : List Addr} (a : Keep S S1 xs) (b : Keep S1 S2 xs) : Keep S S2 xs := fun p o h n => b p o (a p o h n) n
theorem Keep.mono {S S1 : Own} {xs ys : List Addr} (a : Keep S S1 xs) (h : ∀ p ∈ xs, p ∈ ys) : Keep S S1 ys := fun p o e n => a p o e fun m => n (h p m)
theorem keep_put {S : Own} {p : Addr} {o : SO} {xs : List Addr} (h : p ∈ xs) : Keep S (S.put p o) xs := fun a u e n => by
  rw [Own.put_ne (fun z => n (by rw [z]; exact h))]; exact e
theorem keep_new {S : Own} {p : Addr} {o : SO} {xs : List Addr} (h : S p = none) : Keep S (S.put p o) xs := fun a u e n => by
  rw [Own.put_ne (fun z => by rw [z, h] at e; cases e)]; exact e
end DL
namespace DL
open PySem PySem.Spec PyProof.Rows L2
/-! ### the store -/
theorem Own.put_self {S : Own} {a : Addr} {o : SO} (h : S a = some o) : S.put a o = S := by
  funext b
  unfold Own.put
  split
  · rename_i e; rw [e, h]
  · rfl
theorem ix_put {a : Addr} {ds : List D} {i : Int} {S : Own} {R : DVK} : rIxD (.ref a) (.int i) (S.put a (.lst ds)) R = ∃ z, atI ds i = some z ∧ R z (S.put a (.lst ds)) := ix_rl Own.put_same
theorem set_put {a : Addr} {ds : List D} {i : Int} {z : D} {S : Own} {R : Own → Prop} : rSetD (.ref a) (.int i) z (S.put a (.lst ds)) R = ∃ j, ixN ds.length i = some j ∧ R (S.put a (.lst (ds.set j z))) := by
  rw [set_rl Own.put_same]
  simp only [Own.put_put]
theorem setd_put {a : Addr} {es : List (D × D)} {k z : D} {S : Own} {R : Own → Prop} : rSetD (.ref a) k z (S.put a (.dct es)) R = (keyB k = true ∧ kindD es k = true ∧ es.length < sizeLine ∧ R (S.put a (.dct (putD es k z)))) := by
  rw [set_rd Own.put_same, Own.put_put]
theorem ixn_0 {n : Nat} : ixN (n + 1) 0 = some 0 := by
  unfold ixN
  rw [if_pos (Int.le_refl _), if_pos (by omega)]
  rfl
theorem ixn_nat {n i : Nat} (h : i < n) : ixN n (i : Int) = some i := by
  unfold ixN
  rw [if_pos (Int.natCast_nonneg _), if_pos (by exact_mod_cast h)]
  simp
/-! ### plain data, by depth -/
mutual
def shD : Nat → D → Bool
  | _, .non => true
  | _, .bl _ => true
  | _, .int _ => true
  | _, .str _ => true
  | n, .tup ds => shA n ds
  | n, .lst ds => shA n ds
  | _, _ => false
def shA : Nat → List D → Bool
  | 0, _ => false
  | n + 1, ds => shL n ds
def shL : Nat → List D → Bool
  | _, [] => true
  | n, d :: ds => shD n d && shL n ds
end
theorem shL_all : ∀ {n : Nat} {ds : List D}, (∀ d ∈ ds, shD n d = true) → shL n ds = true
  | _, [], _ => by unfold shL; rfl
  | n, d :: ds, h => by unfold shL; rw [h d (.head _), shL_all fun x m => h x (.tail _ m)]; rfl
mutual
theorem sh_pl : ∀ {n : Nat} {d : D}, shD n d = true → plD d = true ∧ (toP d).depth ≤ n
  | n, .non, _ => ⟨rfl, by simp [toP, PyData.depth]⟩
  | n, .bl _, _ => ⟨rfl, by simp [toP, PyData.depth]⟩
  | n, .int _, _ => ⟨rfl, by simp [toP, PyData.depth]⟩
  | n, .str _, _ => ⟨rfl, by simp [toP, PyData.depth]⟩
  | n, .tup ds, h => by
    unfold shD at h
    obtain ⟨h1, h2⟩ := sh_plA h
    unfold plD toP PyData.depth
    exact ⟨h1, h2⟩
  | n, .lst ds, h => by
    unfold shD at h
    obtain ⟨h1, h2⟩ := sh_plA h
    unfold plD toP PyData.depth
    exact ⟨h1, h2⟩
  | _, .ty _, h => by unfold shD at h; cases h
  | _, .dct _, h => by unfold shD at h; cases h
  | _, .ref _, h => by unfold shD at h; cases h
theorem sh_plA : ∀ {n : Nat} {ds : List D}, shA n ds = true → plDs ds = true ∧ PyData.depthAll (toPs ds) + 1 ≤ n
  | 0, _, h => by unfold shA at h; cases h
  | n + 1, ds, h => by
    unfold shA at h
    obtain ⟨h1, h2⟩ := sh_plL h
    exact ⟨h1, by omega⟩
theorem sh_plL : ∀ {n : Nat} {ds : List D}, shL n ds = true → plDs ds = true ∧ PyData.depthAll (toPs ds) ≤ n
  | n, [], _ => ⟨rfl, by simp [toPs, PyData.depthAll]⟩
  | n, d :: ds, h => by
    unfold shL at h
    rw [Bool.and_eq_true] at h
    obtain ⟨a1, a2⟩ := sh_pl h.1
    obtain ⟨b1, b2⟩ := sh_plL h.2
    unfold plDs toPs PyData.depthAll
    exact ⟨by rw [a1, b1]; rfl, by omega⟩
end
theorem rEq_sh {d e : D} {S : Own} {R : DVK} (h : shD 40 d = true) (g : plD e = true) (q : R (.bl (eqv d e)) S) : rEqD d e S R :=
  rEq_pl (sh_pl h).1 g (by unfold plMin; have := (sh_pl h).2; omega) q
theorem rNe_sh {d e : D} {S : Own} {R : DVK} (h : shD 40 d = true) (g : plD e = true) (q : R (.bl (!eqv d e)) S) : rNeD d e S R :=
  rNe_pl (sh_pl h).1 g (by unfold plMin; have := (sh_pl h).2; omega) q
mutual
/-- a greater line holds as well -/
theorem shD_mono : ∀ {n m : Nat} {d : D}, shD n d = true → n ≤ m → shD m d = true
  | _, _, .non, _, _ => by unfold shD; rfl
  | _, _, .bl _, _, _ => by unfold shD; rfl
  | _, _, .int _, _, _ => by unfold shD; rfl
  | _, _, .str _, _, _ => by unfold shD; rfl
  | n, m, .tup ds, h, l => by unfold shD at h ⊢; exact shA_mono h l
  | n, m, .lst ds, h, l => by unfold shD at h ⊢; exact shA_mono h l
  | _, _, .ty _, h, _ => by unfold shD at h; cases h
  | _, _, .dct _, h, _ => by unfold shD at h; cases h
  | _, _, .ref _, h, _ => by unfold shD at h; cases h
theorem shA_mono : ∀ {n m : Nat} {ds : List D}, shA n ds = true → n ≤ m → shA m ds = true
  | 0, _, _, h, _ => by unfold shA at h; cases h
  | n + 1, 0, _, _, l => by omega
  | n + 1, m + 1, ds, h, l => by unfold shA at h ⊢; exact shL_mono h (by omega)
theorem shL_mono : ∀ {n m : Nat} {ds : List D}, shL n ds = true → n ≤ m → shL m ds = true
  | _, _, [], _, _ => by unfold shL; rfl
  | n, m, d :: ds, h, l => by
    unfold shL at h ⊢
    rw [Bool.and_eq_true] at h
    rw [shD_mono h.1 l, shL_mono h.2 l]; rfl
end
/-! ### data without True and False: == is = -/
mutual
def nbD : D → Bool
  | .bl _ => false
  | .ty _ => false
  | .tup ds => nbL ds
  | .lst ds => nbL ds
  | .dct _ => false
  | .ref _ => false
  | _ => true
def nbL : List D → Bool
  | [] => true
  | d :: ds => nbD d && nbL ds
end
theorem nbL_all : ∀ {ds : List D}, (∀ d ∈ ds, nbD d = true) → nbL ds = true
  | [], _ => rfl
  | d :: ds, h => by unfold nbL; rw [h d (.head _), nbL_all fun x m => h x (.tail _ m)]; rfl
mutual
theorem eqv_nb : ∀ {d e : D}, nbD d = true → nbD e = true → eqv d e = true → d = e
  | .non, e, _, he, h => by cases e <;> first | rfl | (simp [eqv] at h) | (simp [nbD] at he)
  | .int i, e, _, he, h => by cases e <;> first | (simp [nbD] at he; done) | (simp [eqv] at h; done) | (simp [eqv] at h; rw [h])
  | .str i, e, _, he, h => by cases e <;> first | (simp [nbD] at he; done) | (simp [eqv] at h; done) | (simp [eqv] at h; rw [h])
  | .tup ds, e, hd, he, h => by
    cases e with
    | tup es => unfold eqv at h; unfold nbD at hd he; rw [eqvs_nb hd he h]
    | _ => first | (simp [nbD] at he; done) | (simp [eqv] at h; done)
  | .lst ds, e, hd, he, h => by
    cases e with
    | lst es => unfold eqv at h; unfold nbD at hd he; rw [eqvs_nb hd he h]
    | _ => first | (simp [nbD] at he; done) | (simp [eqv] at h; done)
  | .bl _, _, h, _, _ => by simp [nbD] at h
  | .ty _, _, h, _, _ => by simp [nbD] at h
  | .dct _, _, h, _, _ => by simp [nbD] at h
  | .ref _, _, h, _, _ => by simp [nbD] at h
theorem eqvs_nb : ∀ {ds es : List D}, nbL ds = true → nbL es = true → eqvs ds es = true → ds = es
  | [], [], _, _, _ => rfl
  | [], _ :: _, _, _, h => by simp [eqvs] at h
  | _ :: _, [], _, _, h => by simp [eqvs] at h
  | d :: ds, e :: es, hd, he, h => by
    unfold nbL at hd he
    unfold eqvs at h
    rw [Bool.and_eq_true] at hd he h
    rw [eqv_nb hd.1 he.1 h.1, eqvs_nb hd.2 he.2 h.2]
end
mutual
theorem eqv_rfl : ∀ {d : D}, nbD d = true → eqv d d = true
  | .non, _ => by simp [eqv]
  | .int _, _ => by simp [eqv]
  | .str _, _ => by simp [eqv]
  | .tup ds, h => by unfold eqv; unfold nbD at h; exact eqvs_rfl h
  | .lst ds, h => by unfold eqv; unfold nbD at h; exact eqvs_rfl h
  | .bl _, h => by simp [nbD] at h
  | .ty _, h => by simp [nbD] at h
  | .dct _, h => by simp [nbD] at h
  | .ref _, h => by simp [nbD] at h
theorem eqvs_rfl : ∀ {ds : List D}, nbL ds = true → eqvs ds ds = true
  | [], _ => by simp [eqvs]
  | d :: ds, h => by
    unfold nbL at h
    rw [Bool.and_eq_true] at h
    unfold eqvs
    rw [eqv_rfl h.1, eqvs_rfl h.2]; rfl
end
theorem eqv_iff {d e : D} (hd : nbD d = true) (he : nbD e = true) : eqv d e = true ↔ d = e := ⟨eqv_nb hd he, fun h => by rw [h]; exact eqv_rfl he⟩
/-! ### loops over what is given as data -/
theorem lcRun_map {α : Type} {g : RG} {tt : RT} {te : RE} {Pd : Own → Prop} {Gw : DG} {R : List D → Own → Prop} {S : Own} {xs : List α} (e : α → D) (f : α → Option D) (hz : xs.length ≤ sizeLine) (hp : Pd S)
    (step : ∀ x ∈ xs, ∀ K : Option D → Own → Prop, K (f x) S → g (e x) Gw S fun G1 S1 => tt G1 S1 fun b S2 => if b = true then te G1 S2 fun d S3 => K (some d) S3 else K none S2)
    (fin : R (xs.filterMap f) S) : lcRun g tt te Pd Gw R (xs.map e) [] S := by
  suffices h : ∀ (rest : List α) (acc : List D), (∀ x ∈ rest, x ∈ xs) → acc.length + rest.length ≤ sizeLine → R (acc ++ rest.filterMap f) S → lcRun g tt te Pd Gw R (rest.map e) acc S from h xs [] (fun _ m => m) (by simpa using hz) fin
  intro rest
  induction rest with
  | nil => intro acc _ _ q; exact ⟨hp, by simpa using q⟩
  | cons x r ih =>
    intro acc hm hl q
    rw [List.length_cons] at hl
    refine ⟨hp, ?_⟩
    have st := step x (hm x (.head _)) (fun o S3 => match o with | some d => acc.length < sizeLine ∧ lcRun g tt te Pd Gw R (r.map e) (acc ++ [d]) S3 | none => lcRun g tt te Pd Gw R (r.map e) acc S3)
    refine st ?_
    cases h : f x with
    | none => exact ih acc (fun y m => hm y (.tail _ m)) (by omega) (by rw [List.filterMap_cons, h] at q; exact q)
    | some d => exact ⟨by omega, ih _ (fun y m => hm y (.tail _ m)) (by rw [List.length_append, List.length_singleton]; omega) (by rw [List.filterMap_cons, h] at q; simpa using q)⟩
theorem forRun_map {α : Type} {g : RG} {tb : RS} {Pd : Own → Prop} {Dn : DEnds} {all : List α} (e : α → D) (J : List α → DG → Own → Prop) {G : DG} {S : Own} (h0 : J [] G S)
    (step : ∀ pre x post G S (K : DG → Own → Prop), all = pre ++ x :: post → J pre G S → (∀ G' S', J (pre ++ [x]) G' S' → K G' S') → Pd S ∧ g (e x) G S fun G1 S1 => tb { nx := K, rt := Dn.rt, bk := Dn.nx, ct := K } G1 S1)
    (fin : ∀ G S, J all G S → Pd S ∧ Dn.nx G S) : forRun g tb Pd Dn (all.map e) G S := by
  suffices h : ∀ (rest pre : List α) G S, all = pre ++ rest → J pre G S → forRun g tb Pd Dn (rest.map e) G S from h all [] G S rfl h0
  intro rest
  induction rest with
  | nil => intro pre G S ea hj; rw [List.append_nil] at ea; subst ea; exact fin G S hj
  | cons x r ih =>
    intro pre G S ea hj
    exact step pre x r G S _ ea hj fun G' S' hj' => ih (pre ++ [x]) G' S' (by rw [ea]; simp) hj'
theorem forRun_each {g : RG} {tb : RS} {Pd : Own → Prop} {Dn : DEnds} {all : List D} (J : List D → DG → Own → Prop) {G : DG} {S : Own} (h0 : J [] G S)
    (step : ∀ pre x post G S (K : DG → Own → Prop), all = pre ++ x :: post → J pre G S → (∀ G' S', J (pre ++ [x]) G' S' → K G' S') → Pd S ∧ g x G S fun G1 S1 => tb { nx := K, rt := Dn.rt, bk := Dn.nx, ct := K } G1 S1)
    (fin : ∀ G S, J all G S → Pd S ∧ Dn.nx G S) : forRun g tb Pd Dn all G S := by
  have := forRun_map (g := g) (tb := tb) (Pd := Pd) (Dn := Dn) (all := all) id J h0 step fin
  rwa [List.map_id] at this
/-- a comprehension whose turns may change the store -/
theorem lcRun_each {α : Type} {g : RG} {tt : RT} {te : RE} {Pd : Own → Prop} {Gw : DG} {R : List D → Own → Prop} {all : List α} (e : α → D) (J : List α → List D → Own → Prop) {S : Own} (h0 : J [] [] S)
    (hz : all.length ≤ sizeLine)
    (step : ∀ pre x post acc S (K : Option D → Own → Prop), all = pre ++ x :: post → J pre acc S → (∀ d S', J (pre ++ [x]) (acc ++ [d]) S' → K (some d) S') → (∀ S', J (pre ++ [x]) acc S' → K none S') →
      Pd S ∧ g (e x) Gw S fun G1 S1 => tt G1 S1 fun b S2 => if b = true then te G1 S2 fun d S3 => K (some d) S3 else K none S2)
    (fin : ∀ acc S, J all acc S → Pd S ∧ R acc S) : lcRun g tt te Pd Gw R (all.map e) [] S := by
  suffices h : ∀ (rest pre : List α) acc S, all = pre ++ rest → acc.length ≤ pre.length → J pre acc S → lcRun g tt te Pd Gw R (rest.map e) acc S from h all [] [] S rfl (Nat.le_refl _) h0
  intro rest
  induction rest with
  | nil => intro pre acc S ea _ hj; rw [List.append_nil] at ea; subst ea; exact fin acc S hj
  | cons x r ih =>
    intro pre acc S ea hl hj
    have lt : acc.length < sizeLine := by
      have : all.length = pre.length + (r.length + 1) := by rw [ea]; simp
      omega
    exact step pre x r acc S (fun o S3 => match o with | some d => acc.length < sizeLine ∧ lcRun g tt te Pd Gw R (r.map e) (acc ++ [d]) S3 | none => lcRun g tt te Pd Gw R (r.map e) acc S3) ea hj
      (fun d S' hj' => ⟨lt, ih (pre ++ [x]) _ S' (by rw [ea]; simp) (by simp; omega) hj'⟩) fun S' hj' => ih (pre ++ [x]) _ S' (by rw [ea]; simp) (by simp; omega) hj'
/-! ### two-clause dict comprehensions -/
theorem dcIn_each {α : Type} {h : RG} {uu : RT} {tk tv : RE} {Pd : Own → Prop} {Gw : DG} {R : List (D × D) → Own → Prop} {S : Own} {all : List α} (e : α → D) (J : List α → List (D × D) → Prop) {acc0 : List (D × D)} (h0 : J [] acc0) (hp : Pd S)
    (step : ∀ pre x post acc (K : D → D → Own → Prop) (E : Own → Prop), all = pre ++ x :: post → J pre acc → (∀ k v, keyB1 k = true → kindD acc k = true → acc.length < sizeLine → J (pre ++ [x]) (putD acc k v) → K k v S) →
      h (e x) Gw S fun G1 S1 => uu G1 S1 fun b S2 => if b = true then tk G1 S2 fun k S3 => tv G1 S3 fun v S4 => K k v S4 else E S2)
    (fin : ∀ acc, J all acc → R acc S) : dcIn h uu tk tv Pd Gw R (all.map e) acc0 S := by
  suffices g : ∀ (rest pre : List α) acc, all = pre ++ rest → J pre acc → dcIn h uu tk tv Pd Gw R (rest.map e) acc S from g all [] acc0 rfl h0
  intro rest
  induction rest with
  | nil => intro pre acc ea hj; rw [List.append_nil] at ea; subst ea; exact ⟨hp, fin acc hj⟩
  | cons x r ih =>
    intro pre acc ea hj
    exact ⟨hp, step pre x r acc (fun k v S4 => keyB1 k = true ∧ kindD acc k = true ∧ acc.length < sizeLine ∧ dcIn h uu tk tv Pd Gw R (r.map e) (putD acc k v) S4) (fun S2 => dcIn h uu tk tv Pd Gw R (r.map e) acc S2) ea hj
      fun k v h1 h2 h3 hj' => ⟨h1, h2, h3, ih (pre ++ [x]) _ (by rw [ea]; simp) hj'⟩⟩
theorem dcOut_each {α : Type} {g : RG} {tt : RT} {tj : RI} {h : RG} {uu : RT} {tk tv : RE} {ws : List Nat} {Pd : Own → Prop} {Gw : DG} {R : List (D × D) → Own → Prop} {S : Own} {all : List α} (e : α → D) (J : List α → List (D × D) → Prop) (h0 : J [] []) (hp : Pd S)
    (step : ∀ pre x post acc (K : List (D × D) → Own → Prop) (E : Own → Prop), all = pre ++ x :: post → J pre acc → (∀ acc', J (pre ++ [x]) acc' → K acc' S) →
      g (e x) Gw S fun G1 S1 => tt G1 S1 fun b S2 => if b = true then tj G1 S2 fun items Pe S3 => dcIn h uu tk tv Pe (wipeD G1 ws) K items acc S3 else E S2)
    (fin : ∀ acc, J all acc → R acc S) : dcOut g tt tj h uu tk tv ws Pd Gw R (all.map e) [] S := by
  suffices z : ∀ (rest pre : List α) acc, all = pre ++ rest → J pre acc → dcOut g tt tj h uu tk tv ws Pd Gw R (rest.map e) acc S from z all [] [] rfl h0
  intro rest
  induction rest with
  | nil => intro pre acc ea hj; rw [List.append_nil] at ea; subst ea; exact ⟨hp, fin acc hj⟩
  | cons x r ih =>
    intro pre acc ea hj
    exact ⟨hp, step pre x r acc (fun acc S4 => dcOut g tt tj h uu tk tv ws Pd Gw R (r.map e) acc S4) (fun S2 => dcOut g tt tj h uu tk tv ws Pd Gw R (r.map e) acc S2) ea hj
      fun acc' hj' => ih (pre ++ [x]) _ (by rw [ea]; simp) hj'⟩
/-! ### small shapes -/
theorem cons_ex {a : D} {l : List D} {R : D → List D → Prop} : (∃ d r, a :: l = d :: r ∧ R d r) = R a l := by
  apply propext; constructor
  · rintro ⟨d, r, e, q⟩; cases e; exact q
  · intro q; exact ⟨a, l, rfl, q⟩
theorem pair_ex {a b : D} {R : D → D → Prop} : (∃ d e, [a, b] = [d, e] ∧ R d e) = R a b := by
  apply propext; constructor
  · rintro ⟨d, r, e, q⟩; cases e; exact q
  · intro q; exact ⟨a, b, rfl, q⟩
theorem sz_0 : (0 ≤ sizeLine) = True := by simp
theorem sz_1 : (1 ≤ sizeLine) = True := eq_true (by decide)
theorem sz_2 : (2 ≤ sizeLine) = True := eq_true (by decide)
theorem sz_3 : (3 ≤ sizeLine) = True := eq_true (by decide)
theorem sz_4 : (4 ≤ sizeLine) = True := eq_true (by decide)
theorem sz_5 : (5 ≤ sizeLine) = True := eq_true (by decide)
theorem sz_6 : (6 ≤ sizeLine) = True := eq_true (by decide)
theorem sz_7 : (7 ≤ sizeLine) = True := eq_true (by decide)
theorem sz_8 : (8 ≤ sizeLine) = True := eq_true (by decide)
theorem ixn_1 {n : Nat} : ixN (n + 2) 1 = some 1 := ixn_nat (i := 1) (by omega)
theorem ixn_2 {n : Nat} : ixN (n + 3) 2 = some 2 := ixn_nat (i := 2) (by omega)
theorem ixn_3 {n : Nat} : ixN (n + 4) 3 = some 3 := ixn_nat (i := 3) (by omega)
theorem cut_map {α : Type} (f : α → D) (xs : List α) (lo hi : Option Int) : ∃ ys : List α, DL.cutD (xs.map f) lo hi = ys.map f ∧ ys.length ≤ xs.length ∧ ∀ y ∈ ys, y ∈ xs := by
  refine ⟨(xs.drop (HT.sIx xs.length 0 lo)).take (HT.sIx xs.length xs.length hi - HT.sIx xs.length 0 lo), ?_, ?_, ?_⟩
  · unfold DL.cutD; rw [List.length_map, List.map_take, List.map_drop]
  · rw [List.length_take, List.length_drop]; omega
  · intro y h; exact List.mem_of_mem_drop (List.mem_of_mem_take h)
/-! ### a dict in flight that is walked -/
theorem di_keys_ref {te : RE} {G : DG} {S : Own} {R : List D → (Own → Prop) → Own → Prop} {a : Addr} {es : List (D × D)} (ht : ∀ R' : DVK, R' (.ref a) S → te G S R') (h : S a = some (.dct es) ∨ ∃ z, S a = some (.dcz z es))
    (q : ∀ z S', S' a = some (.dcz z es) → (∀ x, x ≠ a → S' x = S x) → R (es.map (·.1)) (fun S => S a = some (.dcz z es)) S') : diKeys te G S R := by
  refine ht _ ?_
  rcases h with h | ⟨z, h⟩
  · exact .inr ⟨es, h, fun z => q z _ Own.put_same fun x n => Own.put_ne n⟩
  · exact .inl ⟨z, es, h, q z S h fun _ _ => rfl⟩
theorem in_dic {neg : Bool} {a : Addr} {es : List (D × D)} {d : D} {S : Own} {R : DVK} (h : dicOf S (.ref a) = some es) : rInD neg d (.ref a) S R = (keyB d = true ∧ kindD es d = true ∧ R (.bl (if neg then !(lookD es d).isSome else (lookD es d).isSome)) S) := by
  unfold dicOf at h
  unfold rInD
  simp only at h ⊢
  split at h
  · rename_i h2; cases h; simp only [h2]
  · rename_i h2; cases h; simp only [h2]
  · cases h
theorem tyD_dic {a : Addr} {es : List (D × D)} {S : Own} (h : dicOf S (.ref a) = some es) : tyD S (.ref a) = "dict" := by
  unfold dicOf at h
  unfold tyD
  simp only at h ⊢
  split at h
  · rename_i h2; simp only [h2]
  · rename_i h2; simp only [h2]
  · cases h
theorem keep_ne {S S' : Own} {xs : List Addr} {a : Addr} {o : SO} (k : Keep S S' xs) (h : S a = some o) (n : a ∉ xs) : S' a = some o := k a o h n
/-! ### dicts by their pairs -/
theorem key_nb {k : D} (h : keyB k = true) : nbD k = true := by
  have one : ∀ {d : D}, keyB1 d = true → nbD d = true := fun {d} h => by cases d <;> first | rfl | cases h
  cases k with
  | tup ds =>
    unfold keyB at h
    unfold nbD
    exact nbL_all fun d m => one (List.all_eq_true.mp h d m)
  | _ => exact one h
structure KeysOk (es : List (D × D)) : Prop where
  key : ∀ p ∈ es, keyB p.1 = true
  like : (∀ p ∈ es, tupB p.1 = false) ∨ ∀ p ∈ es, tupB p.1 = true
  nodup : (es.map (·.1)).Nodup
theorem lookD_mem : ∀ {es : List (D × D)}, (∀ p ∈ es, keyB p.1 = true) → (es.map (·.1)).Nodup → ∀ {p : D × D}, p ∈ es → lookD es p.1 = some p.2
  | [], _, _, _, h => nomatch h
  | q :: r, hk, nd, p, hp => by
    have ih := lookD_mem (es := r) (fun p m => hk p (.tail _ m)) (List.nodup_cons.mp nd).2 (p := p)
    unfold lookD at ih ⊢
    rw [List.find?_cons]
    rcases List.mem_cons.mp hp with rfl | hp
    · rw [eqv_rfl (key_nb (hk _ (.head _)))]; rfl
    · have ne : eqv p.1 q.1 = false := by
        rw [Bool.eq_false_iff]; intro e
        have := eqv_nb (key_nb (hk p (.tail _ hp))) (key_nb (hk q (.head _))) e
        exact (List.nodup_cons.mp nd).1 (by show q.1 ∈ _; rw [← this]; exact List.mem_map_of_mem hp)
      rw [ne]
      exact ih hp
theorem KeysOk.look {es : List (D × D)} (h : KeysOk es) {p : D × D} (hp : p ∈ es) : lookD es p.1 = some p.2 := lookD_mem h.key h.nodup hp
theorem KeysOk.kind {es : List (D × D)} (h : KeysOk es) {p : D × D} (hp : p ∈ es) : kindD es p.1 = true := by
  unfold kindD
  rw [List.all_eq_true]
  intro q hq
  rcases h.like with l | l <;> rw [l q hq, l p hp] <;> rfl
theorem putD_new {es : List (D × D)} {k v : D} (hk : ∀ p ∈ es, keyB p.1 = true) (h : keyB k = true) (n : k ∉ es.map (·.1)) : putD es k v = es ++ [(k, v)] := by
  unfold putD
  have : (es.any fun p => eqv k p.1) = false := by
    rw [Bool.eq_false_iff]; intro e
    obtain ⟨p, hp, ep⟩ := List.any_eq_true.mp e
    exact n (by rw [eqv_nb (key_nb h) (key_nb (hk p hp)) ep]; exact List.mem_map_of_mem hp)
  rw [this]; rfl
theorem mergeD_new : ∀ {ps acc : List (D × D)}, (∀ p ∈ acc ++ ps, keyB p.1 = true) → ((acc ++ ps).map (·.1)).Nodup → mergeD acc ps = acc ++ ps
  | [], acc, _, _ => by simp [mergeD]
  | p :: r, acc, hk, nd => by
    have e : mergeD acc (p :: r) = mergeD (putD acc p.1 p.2) r := rfl
    rw [e, putD_new (fun q m => hk q (List.mem_append_left _ m)) (hk p (by simp)) (fun m => by
      rw [List.map_append, List.map_cons, List.nodup_append] at nd
      exact nd.2.2 _ m _ (.head _) rfl)]
    have : acc ++ p :: r = (acc ++ [(p.1, p.2)]) ++ r := by simp
    rw [mergeD_new (by rw [← this]; exact hk) (by rw [← this]; exact nd), this]
theorem pairsD_of : ∀ {es : List (D × D)}, pairsD (es.map fun p => .tup [p.1, p.2]) = some es
  | [] => rfl
  | p :: r => by
    rw [List.map_cons]
    show (pairsD _).map _ = _
    rw [pairsD_of]; rfl
theorem KeysOk.all {es : List (D × D)} (h : KeysOk es) : (es.all fun p => keyB1 p.1) = true ∨ (es.all fun p => tupB p.1 && keyB p.1) = true := by
  rcases h.like with l | l
  · refine .inl (List.all_eq_true.mpr fun p hp => ?_)
    have h1 := l p hp
    have h2 := h.key p hp
    obtain ⟨k, v⟩ := p
    cases k <;> first | exact h2 | cases h1
  · exact .inr (List.all_eq_true.mpr fun p hp => by rw [l p hp, h.key p hp]; rfl)
theorem KeysOk.cons {p : D × D} {es : List (D × D)} (h : KeysOk (p :: es)) : KeysOk es :=
  ⟨fun q m => h.key q (.tail _ m), h.like.imp (fun l q m => l q (.tail _ m)) fun l q m => l q (.tail _ m), (List.nodup_cons.mp h.nodup).2⟩
/-- what may be copied, of depth at most n -/
def Dep : Nat → D → Prop
  | _, .non => True
  | _, .bl _ => True
  | _, .int _ => True
  | _, .str _ => True
  | n + 1, .tup ds => (∀ d ∈ ds, Dep n d) ∧ ds.length ≤ 1000
  | n + 1, .lst ds => (∀ d ∈ ds, Dep n d) ∧ ds.length ≤ 1000
  | n + 1, .dct es => (∀ p ∈ es, Dep n p.2) ∧ es.length ≤ 1000 ∧ KeysOk es
  | _, _ => False
theorem norefs_mem : ∀ {ds : List D}, norefs ds = true → ∀ d ∈ ds, noref d = true
  | [], _, _, h => nomatch h
  | d :: ds, h, e, m => by
    unfold norefs at h
    rw [Bool.and_eq_true] at h
    rcases List.mem_cons.mp m with rfl | m
    · exact h.1
    · exact norefs_mem h.2 e m
theorem norefd_mem : ∀ {ds : List (D × D)}, norefd ds = true → ∀ d ∈ ds, noref d.2 = true
  | [], _, _, h => nomatch h
  | (k, d) :: ds, h, e, m => by
    unfold norefd at h
    rw [Bool.and_eq_true] at h
    rcases List.mem_cons.mp m with rfl | m
    · exact h.1
    · exact norefd_mem h.2 e m
end DL
namespace DL
open PySem PySem.Spec PyProof.Rows L2
open PySem.W (EachIs AllAlike Sortable dataLe)
/-! ### sorted data -/
theorem sort_map {α : Type} (f : α → D) (xs : List α) : ∃ ys : List α, ys.Perm xs ∧ sortDs (xs.map f) = ys.map f := by
  obtain ⟨l, h, e⟩ := L2.perm_lift f (List.mergeSort_perm (xs.map f) (dataLe false toP)) xs rfl
  exact ⟨l, h, e.symm⟩
theorem sortOk_strs {α : Type} (f : α → Str) (xs : List α) : SortOk (xs.map fun x => D.str (f x)) where
  pl := fun d h => by obtain ⟨x, _, rfl⟩ := List.mem_map.mp h; rfl
  like := by rw [List.map_map]; exact AllAlike.of fun b b' => by simp [toP, PySem.W.alike]
  kind := by rw [List.map_map]; exact Sortable.others fun b => ⟨by simp [toP], fun xs h => by simp [toP] at h⟩
  deep := fun d h => by obtain ⟨x, _, rfl⟩ := List.mem_map.mp h; simp [toP, PyData.depth]
theorem sortOk_tups {α : Type} (f : α → D) (xs : List α) (sh : ∀ a, shD 40 (f a) = true) (al : ∀ a b, PySem.W.alike (toP (f a)) (toP (f b)) = true) (tu : ∀ a, ∃ x r, toP (f a) = .tuple (x :: r)) : SortOk (xs.map f) where
  pl := fun d h => by obtain ⟨x, _, rfl⟩ := List.mem_map.mp h; exact (sh_pl (sh x)).1
  like := by rw [List.map_map]; exact AllAlike.of fun b b' => al b b'
  kind := by rw [List.map_map]; exact Sortable.tuples fun b => tu b
  deep := fun d h => by obtain ⟨x, _, rfl⟩ := List.mem_map.mp h; exact (sh_pl (sh x)).2
/-! ### == of like data -/
theorem KeysOk.find {es : List (D × D)} (h : KeysOk es) {p : D × D} (hp : p ∈ es) : (es.find? fun q => eqv p.1 q.1) = some p := by
  have hk := h.key
  have nd := h.nodup
  clear h
  induction es with
  | nil => cases hp
  | cons q r ih =>
    rw [List.find?_cons]
    rcases List.mem_cons.mp hp with rfl | hp
    · rw [eqv_rfl (key_nb (hk _ (.head _)))]
    · have ne : eqv p.1 q.1 = false := by
        rw [Bool.eq_false_iff]; intro e
        have := eqv_nb (key_nb (hk p (.tail _ hp))) (key_nb (hk q (.head _))) e
        exact (List.nodup_cons.mp nd).1 (by show q.1 ∈ _; rw [← this]; exact List.mem_map_of_mem hp)
      rw [ne]
      exact ih hp (fun p m => hk p (.tail _ m)) (List.nodup_cons.mp nd).2
theorem KeysOk.perm {xs ys : List (D × D)} (h : KeysOk xs) (p : xs.Perm ys) : KeysOk ys where
  key := fun q m => h.key q (p.mem_iff.mpr m)
  like := h.like.imp (fun l q m => l q (p.mem_iff.mpr m)) fun l q m => l q (p.mem_iff.mpr m)
  nodup := (p.map _).nodup_iff.mp h.nodup
theorem subs_of : ∀ {xs ys : List (D × D)}, (∀ p ∈ xs, (ys.find? fun q => eqv p.1 q.1) = some p ∧ eqv p.2 p.2 = true) → subs xs ys = true
  | [], _, _ => by simp [subs]
  | (k, v) :: r, ys, h => by
    unfold subs
    have := h (k, v) (.head _)
    rw [this.1, subs_of fun p m => h p (.tail _ m)]
    simp [this.2]
theorem eqv_dct {xs ys : List (D × D)} (h : KeysOk xs) (p : xs.Perm ys) (hv : ∀ q ∈ xs, eqv q.2 q.2 = true) : eqv (.dct xs) (.dct ys) = true := by
  unfold eqv
  rw [p.length_eq, subs_of fun q m => ⟨(h.perm p).find (p.mem_iff.mp m), hv q m⟩]
  simp
theorem okE_dct {n : Nat} {xs ys : List (D × D)} (h : KeysOk xs) (p : xs.Perm ys) (hv : ∀ q ∈ xs, okE n q.2 q.2 = true) : okE (n + 1) (.dct xs) (.dct ys) = true := by
  unfold okE
  have lk : likeK xs ys = true := by
    unfold likeK
    rcases h.like with l | l
    · have a : (xs.all fun p => !tupB p.1) = true := List.all_eq_true.mpr fun q m => by rw [l q m]; rfl
      have b : (ys.all fun p => !tupB p.1) = true := List.all_eq_true.mpr fun q m => by rw [l q (p.mem_iff.mpr m)]; rfl
      rw [a, b]; rfl
    · have a : (xs.all fun p => tupB p.1) = true := List.all_eq_true.mpr fun q m => l q m
      have b : (ys.all fun p => tupB p.1) = true := List.all_eq_true.mpr fun q m => l q (p.mem_iff.mpr m)
      rw [a, b, Bool.and_self, Bool.or_true]
  simp only [Bool.or_eq_true]
  refine .inr ?_
  simp only [lk, Bool.true_and, Bool.or_eq_true]
  refine .inr (List.all_eq_true.mpr fun q m => ?_)
  rw [(h.perm p).find (p.mem_iff.mp m)]; exact hv q m
theorem eqv_self_all : ∀ {xs : List D}, (∀ d ∈ xs, eqv d d = true) → eqvs xs xs = true
  | [], _ => by simp [eqvs]
  | d :: ds, h => by unfold eqvs; rw [h d (.head _), eqv_self_all fun x m => h x (.tail _ m)]; rfl
theorem Dep.eqv : ∀ {n : Nat} {d : D}, Dep n d → eqv d d = true
  | _, .non, _ => by simp [DL.eqv]
  | _, .bl _, _ => by simp [DL.eqv]
  | _, .int _, _ => by simp [DL.eqv]
  | _, .str _, _ => by simp [DL.eqv]
  | 0, .ty _, h => h.elim
  | 0, .ref _, h => h.elim
  | 0, .tup _, h => h.elim
  | 0, .lst _, h => h.elim
  | 0, .dct _, h => h.elim
  | n + 1, .ty _, h => h.elim
  | n + 1, .ref _, h => h.elim
  | n + 1, .tup ds, h => by unfold DL.eqv; exact eqv_self_all fun d m => (h.1 d m).eqv
  | n + 1, .lst ds, h => by unfold DL.eqv; exact eqv_self_all fun d m => (h.1 d m).eqv
  | n + 1, .dct es, h => eqv_dct h.2.2 (List.Perm.refl _) fun q m => (h.1 q m).eqv
theorem zip_all {f : D → D → Bool} : ∀ {xs : List D}, (∀ d ∈ xs, f d d = true) → ((xs.zip xs).all fun p => f p.1 p.2) = true
  | [], _ => rfl
  | d :: ds, h => by rw [List.zip_cons_cons, List.all_cons, h d (.head _), zip_all fun x m => h x (.tail _ m)]; rfl
theorem okE_leaf {d : D} (h : flatD d = true) : ∀ n, okE n d d = true
  | 0 => by unfold okE; rw [(flat0 h).1]; simp [plMin, (flat0 h).2]
  | n + 1 => by unfold okE; rw [(flat0 h).1]; simp [plMin, (flat0 h).2]
theorem Dep.okE : ∀ {n : Nat} {d : D}, Dep n d → okE n d d = true
  | n, .non, _ => okE_leaf rfl n
  | n, .bl _, _ => okE_leaf rfl n
  | n, .int _, _ => okE_leaf rfl n
  | n, .str _, _ => okE_leaf rfl n
  | 0, .ty _, h => h.elim
  | 0, .ref _, h => h.elim
  | 0, .tup _, h => h.elim
  | 0, .lst _, h => h.elim
  | 0, .dct _, h => h.elim
  | n + 1, .ty _, h => h.elim
  | n + 1, .ref _, h => h.elim
  | n + 1, .tup ds, h => by unfold DL.okE; simp only [zip_all fun d m => (h.1 d m).okE, Bool.or_true]
  | n + 1, .lst ds, h => by unfold DL.okE; simp only [zip_all fun d m => (h.1 d m).okE, Bool.or_true]
  | n + 1, .dct es, h => okE_dct h.2.2 (List.Perm.refl _) fun q m => (h.1 q m).okE
theorem Dep.more : ∀ {n : Nat} {d : D}, Dep n d → Dep (n + 1) d
  | _, .non, _ => trivial
  | _, .bl _, _ => trivial
  | _, .int _, _ => trivial
  | _, .str _, _ => trivial
  | 0, .ty _, h => h.elim
  | 0, .ref _, h => h.elim
  | 0, .tup _, h => h.elim
  | 0, .lst _, h => h.elim
  | 0, .dct _, h => h.elim
  | n + 1, .ty _, h => h.elim
  | n + 1, .ref _, h => h.elim
  | n + 1, .tup ds, h => ⟨fun d m => (h.1 d m).more, h.2⟩
  | n + 1, .lst ds, h => ⟨fun d m => (h.1 d m).more, h.2⟩
  | n + 1, .dct es, h => ⟨fun d m => (h.1 d m).more, h.2⟩
theorem Dep.mono {n m : Nat} {d : D} (h : Dep n d) (l : n ≤ m) : Dep m d := by
  induction l with
  | refl => exact h
  | step _ ih => exact ih.more
end DL
namespace DL
open PySem PySem.Spec PyProof.Rows L2
/-! ### the head: a kept part without lists -/
def frL (g : Addr → Option Obj) (as : List Addr) : PySem.W.Frag := (He.frG g as).filter fun q => !(q.2.cls == Value.type "list")
theorem frL_mem {g : Addr → Option Obj} {as : List Addr} {a : Addr} {o : Obj} (h : (frL g as).lookup a = some o) : g a = some o ∧ (o.cls == Value.type "list") = false := by
  obtain ⟨h1, h2⟩ := List.mem_filter.mp (He.lookup_mem h)
  exact ⟨He.frG_mem h1, by simpa using h2⟩
def noL (K : PySem.W.Frag) : Prop := ∀ a o, K.lookup a = some o → o.cls ≠ Value.type "list"
def obsLG (n : Nat) (fa : List He.Fa) (fn : List He.DefD) (g : Addr → Option Obj) : He.AlD := He.obsD fa fn (frL g (He.asD g n))
def hookL (n : Nat) (fa : List He.Fa) (fn : List He.DefD) : PySem.W.Hook where
  α := He.AlD
  obs := fun s => obsLG n fa fn s.heap.get?
  val := fun _ => He.valD fn
  says := fun _ h => ∃ K : PySem.W.Frag, K.In h ∧ He.SaysD fa fn K ∧ noL K
  of := fun _ _ e => ⟨_, fun _ _ z => (frL_mem z).1, e, fun _ _ z y => by have := (frL_mem z).2; rw [y] at this; exact absurd this (by decide)⟩
  keeps := fun _ _ _ ⟨K, hK, c, l⟩ k => ⟨K, PySem.W.Frag.In.keeps hK k, c, l⟩
theorem obsLG_eq {n : Nat} {fa : List He.Fa} {fn : List He.DefD} {g : Addr → Option Obj} {s : Shared} (h : ∀ a, g a = s.heap.get? a) : obsLG n fa fn g = (hookL n fa fn).obs s := by
  have e : g = s.heap.get? := funext h
  rw [e] <;> rfl
section
variable {P : Program} {w : World} {K : PySem.W.Frag} {mg : Str → Option Value} {base : Heap}
abbrev FnP (K : PySem.W.Frag) (x : Str) (st : Stmt) (f : Addr) (fd : FuncData) : Prop := FunD K x x (defArgs st) (defBody st) (defScope st) [] [] f fd
theorem okDD {x : Str} {st : Stmt} {f : Addr} {fd : FuncData} {N ps : List Str} {k : Nat} {sp : DSp} (F : FnP K x st f fd) (Sc : FnScope N ps (defScope st)) (len : ∀ ds S R E, sp ds S R E → ds.length = ps.length)
    (hbody : ∀ (cdv : Value) (A : Around) (outer : List Env) (s : Shared) (H : Hp) (E : XK) (B : Bs), Room k (A.deeper (envOfC x (defScope st) s.heap.objs.size f cdv)) →
      ∃ t, JSs (cxOf CX0 P w K mg base N x (defScope st) f cdv A outer s H E).nox B (defBody st) t ∧ ∀ ds R RX, sp ds B.s R RX → t { nx := fun _ S' => R .non S', rt := R } (startD N ds) B.s) : FnOk P w K mg base CX0 (k + 1) f fd ps (liftSp K sp) := by
  refine F.ok Sc (fun vs H Q E h => ?_) (fun cdv A outer s H vs Q E hr h => ?_)
  · obtain ⟨ds, S, Z, R, RX, r, _, _, q, _⟩ := h
    rw [r.length]; exact len _ _ _ _ q
  · obtain ⟨ds, S, Z, R, RX, r, W, dis, q, k1, k2⟩ := h
    obtain ⟨t, ht, hq⟩ := hbody cdv A outer s H E ⟨H, S, Z⟩ hr
    refine ⟨_, PSs.nox ht, startD N ds, S, _, ⟨W, renv_start r, Fr.refl _ _, dis⟩, hq ds R RX q, ⟨fun G' S' σ' H' z f A' => ?_, fun d S' v H' z f W' dd h => ?_, fun _ _ _ _ z => z.elim, fun _ _ _ _ z => z.elim⟩⟩
    · exact k1 .non .non H' S' z f A'.own A'.dis .non
    · exact k1 v d H' S' z f W' dd h
theorem callee_of {x : Str} {st : Stmt} {f : Addr} {fd : FuncData} {N ps : List Str} {k : Nat} {sp : DSp} (F : FnP K x st f fd) (hm : mg x = some (.ref f)) (hb : Binds K fd ps []) (Sc : FnScope N ps (defScope st)) (len : ∀ ds S R E, sp ds S R E → ds.length = ps.length)
    (hbody : ∀ (cdv : Value) (A : Around) (outer : List Env) (s : Shared) (H : Hp) (E : XK) (B : Bs), Room k (A.deeper (envOfC x (defScope st) s.heap.objs.size f cdv)) →
      ∃ t, JSs (cxOf CX0 P w K mg base N x (defScope st) f cdv A outer s H E).nox B (defBody st) t ∧ ∀ ds R RX, sp ds B.s R RX → t { nx := fun _ S' => R .non S', rt := R } (startD N ds) B.s) : Callee P w K mg base (k + 1) x ps sp :=
  ⟨f, fd, okDD F Sc len hbody, hm, F.kp, hb⟩
abbrev spNo : DSp := fun _ _ _ _ => False
theorem callee_no {x : Str} {st : Stmt} {f : Addr} {fd : FuncData} {N ps : List Str} {k : Nat} (F : FnP K x st f fd) (hm : mg x = some (.ref f)) (hb : Binds K fd ps []) (Sc : FnScope N ps (defScope st)) : Callee P w K mg base (k + 1) x ps spNo :=
  ⟨f, fd, F.ok Sc (fun vs H Q E h => by obtain ⟨_, _, _, _, _, _, _, _, q, _⟩ := h; exact q.elim) (fun cdv A outer s H vs Q E hr h => by obtain ⟨_, _, _, _, _, _, _, _, q, _⟩ := h; exact q.elim), hm, F.kp, hb⟩
/-- a law's promise, from its script -/
theorem law_lift {sp : DSp} (h : ∀ (ns : List Int) (S : Own) (R : DVK) (RX : DXK), ns.length ≤ 1000 → (∀ S', R (.bl true) S') → sp [.lst (ns.map D.int)] S R RX) {H : Hp} {a : Addr} {ns : List Int} (n : noL K) (hl : ns.length ≤ 1000) (hS : SqL K H a (ns.map V.int)) :
    liftSp K sp [.ref a] H (fun v _ => v = .bl true) fun _ _ _ => False := by
  have rd : Rd H a (.lst (ns.map V.int)) := by
    rcases hS with h | ⟨o, _, _, h1, h2, _⟩
    · exact h
    · exact absurd h2 (n a o h1)
  have rp : ∀ {T : Own} (l : List Int), Reps K H T (l.map V.int) (l.map D.int) := fun l => by
    induction l with
    | nil => exact .nil
    | cons i r ih => exact .cons (.int i) ih
  refine ⟨[.lst (ns.map D.int)], fun _ => none, fun _ => none, fun d _ => d = .bl true, fun _ _ _ => False, .cons (.lst ⟨rd, rfl⟩ (rp ns)) .nil, fun a o e => (nomatch e), fun a o e => rfl, h ns _ _ _ hl fun _ => rfl, fun v d H' S' e _ _ _ r => ?_, fun _ _ _ _ _ z => z.elim⟩
  subst e
  cases r
  rfl
end
end DL
namespace K83
open PySem PySem.Spec PyProof.Rows L2 DL
/-! ### the data of the law -/
inductive Row where
  | on (n : Int)
  | key (x : Str) (lo hi f : Int) (c : Str)
  | own (x : Str) (lo hi f : Int)
def Row.d : Row → D
  | .on n => .tup [.str "on", .str "ee", .int n]
  | .key x lo hi f c => .tup [.str "key", .str x, .int lo, .int hi, .int f, .str c]
  | .own x lo hi f => .tup [.str "own", .str x, .int lo, .int hi, .int f]
def Row.word : Row → Str
  | .on _ => "on"
  | .key .. => "key"
  | .own .. => "own"
structure Make where
  part : Str
  v1 : Int
  v2 : Int
  rows : List Row
  nb : Nat
def bodyD : D := .tup [.str "steps", .tup []]
def Make.d (m : Make) : D := .tup [.str "make", .str m.part, .tup [.int m.v1, .int m.v2], .tup (m.rows.map Row.d), .tup (List.replicate m.nb bodyD)]
abbrev Spot := Str × Str
abbrev Keys := List (Spot × Int)
abbrev Shelves := List (Str × Int)
def spotD (s : Spot) : D := .tup [.str s.1, .str s.2]
def keysD (ks : Keys) : List (D × D) := ks.map fun p => (spotD p.1, .int p.2)
def shelvesD (ss : Shelves) : List (D × D) := ss.map fun p => (.str p.1, .int p.2)
def makesD (ms : List Make) : List (D × D) := ms.map fun m => (.str m.part, m.d)
def keyNames (m : Make) : List Str := m.rows.filterMap fun r => match r with | .key x .. => some x | _ => none
def ownNames (m : Make) : List Str := m.rows.filterMap fun r => match r with | .own x .. => some x | _ => none
def spotsOf (m : Make) : List Spot := (keyNames m).map fun x => (m.part, x)
def spots (ms : List Make) : List Spot := ms.flatMap spotsOf
def owns (ms : List Make) : List Str := ms.flatMap ownNames
def RowIn : Row → Prop
  | .on _ => True
  | .key _ lo hi _ _ => lo ≤ hi ∧ hi ≤ lo + 8
  | .own _ lo hi _ => lo ≤ hi ∧ hi ≤ lo + 8
structure MOk (m : Make) : Prop where
  few : m.rows.length ≤ 100
  rin : ∀ r ∈ m.rows, RowIn r
  keys : (keyNames m).Nodup
  nb : m.nb ≤ 10
structure MsOk (ms : List Make) : Prop where
  each : ∀ m ∈ ms, MOk m
  parts : (ms.map (·.part)).Nodup
  few : ms.length ≤ 4
  owns : (owns ms).Nodup
/-! ### the bag -/
def BagOk (bag : List D) : Prop := ∃ (a sd : Int) (p : Nat) (cs : List Int), bag = [.int a, .int sd, .int p, .lst (cs.map .int)]
def Bag (S : Own) (b : Addr) : Prop := ∃ bag, S b = some (.lst bag) ∧ BagOk bag
def MAt (S : Own) (p : Addr) (ms : List Make) : Prop := S p = some (.dct (makesD ms)) ∨ ∃ z, S p = some (.dcz z (makesD ms))
theorem MAt.dic {S : Own} {p : Addr} {ms : List Make} (h : MAt S p ms) : dicOf S (.ref p) = some (makesD ms) := by
  rcases h with h | ⟨z, h⟩ <;> simp only [dicOf, h]
theorem Bag.keep {S S' : Own} {b : Addr} {xs : List Addr} (h : Bag S b) (k : Keep S S' xs) (n : b ∉ xs) : Bag S' b := by
  obtain ⟨bag, e, o⟩ := h; exact ⟨bag, k _ _ e n, o⟩
theorem MAt.keep {S S' : Own} {b : Addr} {ms : List Make} {xs : List Addr} (h : MAt S b ms) (k : Keep S S' xs) (n : b ∉ xs) : MAt S' b ms := by
  rcases h with e | ⟨z, e⟩
  · exact .inl (k _ _ e n)
  · exact .inr ⟨z, k _ _ e n⟩
/-! ### what is kept -/
def look (ks : Keys) (s : Spot) : Option Int := ks.lookup s
def hasKey (m : Make) (x : Str) : Bool := (keyNames m).contains x
def keptN (ks : Keys) (was : Option Make) (m : Make) (x : Str) (lo hi f : Int) (c : Str) : Int := match was, ks.lookup (m.part, x) with
  | some e, some v => if eqv e.d m.d = true then v else if hasKey e x = true ∧ c = "kept" ∧ lo ≤ v ∧ v ≤ hi then v else f
  | _, _ => f
def wasD : Option Make → D
  | none => .non
  | some m => m.d
def keysMake (ks : Keys) (was : Option Make) (m : Make) : Keys := m.rows.filterMap fun r => match r with
  | .key x lo hi f c => some ((m.part, x), keptN ks was m x lo hi f c)
  | _ => none
def keysOver (ks : Keys) (elder newer : List Make) : Keys := newer.flatMap fun m => keysMake ks (elder.find? fun e => e.part == m.part) m
def shelfN (ss : Shelves) (owned : List Str) (x : Str) (lo hi f : Int) : Int := match ss.lookup x with
  | some v => if owned.contains x = true ∧ lo ≤ v ∧ v ≤ hi then v else f
  | none => f
def shelvesMake (ss : Shelves) (owned : List Str) (m : Make) : Shelves := m.rows.filterMap fun r => match r with
  | .own x lo hi f => some (x, shelfN ss owned x lo hi f)
  | _ => none
def shelvesOver (ss : Shelves) (elder newer : List Make) : Shelves := newer.flatMap fun m => shelvesMake ss (owns elder) m
/-! ### due -/
def dueN (ks : Keys) (elder : List Make) (m : Make) (x : Str) (lo hi f : Int) (c : Str) : Int :=
  if ((match ks.lookup (m.part, x) with | some v => decide (c = "kept") && decide (lo ≤ v) && decide (v ≤ hi) | none => false) || (match elder.find? fun e => e.part == m.part with | some e => eqv e.d m.d | none => false)) = true then (ks.lookup (m.part, x)).getD 0 else f
def dueKeys (ks : Keys) (elder newer : List Make) : Keys := newer.flatMap fun m => m.rows.filterMap fun r => match r with
  | .key x lo hi f c => some ((m.part, x), dueN ks elder m x lo hi f c)
  | _ => none
def dueS (ss : Shelves) (x : Str) (lo hi f : Int) : Int := match ss.lookup x with
  | some v => if lo ≤ v ∧ v ≤ hi then v else f
  | none => f
def dueShelves (ss : Shelves) (newer : List Make) : Shelves := newer.flatMap fun m => m.rows.filterMap fun r => match r with
  | .own x lo hi f => some (x, dueS ss x lo hi f)
  | _ => none
/-! ### the promises -/
abbrev rSubD : R2D := rI1 fun i j => .int (i - j)
abbrev rModD : R2D := rI2 (fun _ j => 0 < j) fun i j => .int (i % j)
abbrev rDivD : R2D := rI2 CDiv fun i j => .int (i / j)
abbrev rLtI : R2D := rI1 fun i j => .bl (decide (i < j))
abbrev rLeI : R2D := rI1 fun i j => .bl (decide (i ≤ j))
abbrev rGtI : R2D := rI1 fun i j => .bl (decide (j < i))
abbrev rGeI : R2D := rI1 fun i j => .bl (decide (j ≤ i))
abbrev rIAddD : R2D := rI1 fun i j => .int (i + j)
def sprows_of : DSp := fun ds S R _ => ∃ (m : Make) (w : Str), ds = [m.d, .str w] ∧ m.rows.length ≤ 100 ∧ R (.lst ((m.rows.filter fun r => decide (r.word = w)).map Row.d)) S
def spkept_number : DSp := fun ds S R _ => ∃ (ks : Keys) (was : Option Make) (m : Make) (x : Str) (lo hi f : Int) (c : Str), ds = [.dct (keysD ks), wasD was, m.d, (Row.key x lo hi f c).d] ∧ (∀ e, was = some e → e.rows.length ≤ 100) ∧ R (.int (keptN ks was m x lo hi f c)) S
def spkeys_over : DSp := fun ds S R _ => ∃ (ks : Keys) (elder newer : List Make), ds = [.dct (keysD ks), .lst (elder.map Make.d), .lst (newer.map Make.d)] ∧ MsOk elder ∧ MsOk newer ∧ ∀ p, S p = none → R (.ref p) (S.put p (.dct (keysD (keysOver ks elder newer))))
def spshelves_over : DSp := fun ds S R _ => ∃ (ss : Shelves) (elder newer : List Make), ds = [.dct (shelvesD ss), .lst (elder.map Make.d), .lst (newer.map Make.d)] ∧ MsOk elder ∧ MsOk newer ∧ ∀ p, S p = none → R (.ref p) (S.put p (.dct (shelvesD (shelvesOver ss elder newer))))
def spgone_over : DSp := fun ds S R _ => ∃ (ks : Keys) (ss : Shelves) (elder newer : List Make), ds = [.dct (keysD ks), .dct (shelvesD ss), .lst (elder.map Make.d), .lst (newer.map Make.d)] ∧ MsOk elder ∧ MsOk newer ∧
  ∀ p q, S p = none → S q = none → p ≠ q → R (.tup [.ref p, .ref q]) ((S.put p (.dct (keysD (keysOver ks elder newer)))).put q (.dct (shelvesD (shelvesOver ss elder newer))))
def sp_law_bag : DSp := fun ds S R _ => ∃ ns : List Int, ds = [.lst (ns.map .int)] ∧ ns.length ≤ 1000 ∧ ∀ p bag, S p = none → BagOk bag → R (.ref p) (S.put p (.lst bag))
def sp_law_take : DSp := fun ds S R _ => ∃ (b : Addr) (m : Int), ds = [.ref b, .int m] ∧ Bag S b ∧ 0 < m ∧ m < 1073741824 ∧ ∀ v S', 0 ≤ v → v < m → Bag S' b → Keep S S' [b] → R (.int v) S'
def RowOf (w x : Str) : Row → Prop
  | .on _ => False
  | .key y lo hi _ _ => w = "key" ∧ y = x ∧ lo ≤ hi ∧ hi ≤ lo + 8
  | .own y lo hi _ => w = "own" ∧ y = x ∧ lo ≤ hi ∧ hi ≤ lo + 8
def sp_law_row : DSp := fun ds S R _ => ∃ (b : Addr) (w x : Str), ds = [.ref b, .str w, .str x] ∧ (w = "key" ∨ w = "own") ∧ Bag S b ∧ ∀ r S', RowOf w x r → Bag S' b → Keep S S' [b] → R r.d S'
def sp_law_names : DSp := fun ds S R _ => ∃ b : Addr, ds = [.ref b, .int 16] ∧ Bag S b ∧ ∀ (ns : List Str) S', ns.length = 16 → ns.Nodup → Bag S' b → Keep S S' [b] → R (.lst (ns.map .str)) S'
def sp_law_makes : DSp := fun ds S R _ => ∃ (b : Addr) (ns os : List Str), ds = [.ref b, .lst (ns.map .str), .lst (os.map .str)] ∧ ns.length ≤ 16 ∧ ns.Nodup ∧ os.length = 3 ∧ os.Nodup ∧ Bag S b ∧
  ∀ ms p S', MsOk ms → S p = none → S' p = some (.dct (makesD ms)) → Bag S' b → Keep S S' [b] → R (.ref p) S'
def sp_law_numbers : DSp := fun ds S R _ => ∃ (b p : Addr) (ms : List Make), ds = [.ref b, .ref p] ∧ b ≠ p ∧ MsOk ms ∧ Bag S b ∧ MAt S p ms ∧
  ∀ (ks : Keys) (ss : Shelves) q1 q2 S', ks.map (·.1) = spots ms → ss.map (·.1) = owns ms → S q1 = none → S q2 = none → q1 ≠ q2 → S' q1 = some (.dct (keysD ks)) → S' q2 = some (.dct (shelvesD ss)) → Bag S' b → MAt S' p ms → Keep S S' [b, p] → R (.tup [.ref q1, .ref q2]) S'
def sp_law_due : DSp := fun ds S R _ => ∃ (q1 q2 p1 p2 : Addr) (ks : Keys) (ss : Shelves) (elder newer : List Make), ds = [.ref q1, .ref q2, .ref p1, .ref p2] ∧ MsOk elder ∧ MsOk newer ∧ S q1 = some (.dct (keysD ks)) ∧ S q2 = some (.dct (shelvesD ss)) ∧ MAt S p1 elder ∧ MAt S p2 newer ∧ q1 ≠ p2 ∧ q2 ≠ p2 ∧ p1 ≠ p2 ∧
  ∀ r1 r2 S', S r1 = none → S r2 = none → r1 ≠ r2 → S' r1 = some (.dct (keysD (dueKeys ks elder newer))) → S' r2 = some (.dct (shelvesD (dueShelves ss newer))) → MAt S' p2 newer → Keep S S' [p2] → R (.tup [.ref r1, .ref r2]) S'
def CpD (S : Own) (d d' : D) : Prop := (noref d = true ∧ d' = d) ∨ ∃ a ds, d = .ref a ∧ S a = some (.lst ds) ∧ norefs ds = true ∧ d' = .lst ds
def sp_law_copy (n : Nat) : DSp := fun ds S R _ => ∃ d d', ds = [d] ∧ CpD S d d' ∧ Dep n d' ∧ R d' S
def splaw : DSp := fun ds S R _ => ∃ ns : List Int, ds = [.lst (ns.map .int)] ∧ ns.length ≤ 1000 ∧ ∀ S', R (.bl true) S'
end K83
namespace K83
open PySem PySem.Spec PyProof.Rows L2 DL
def top (i : Nat) : Stmt := PySem.Challenge.pw_plughall_k83_gone_over.main.body.getD i (.Pass ⟨0, 0, 0, 0⟩)
structure BI (mg : Str → Option Value) : Prop where
  len : mg "len" = none
  abs : mg "abs" = none
  sorted : mg "sorted" = none
  range : mg "range" = none
  isinstance : mg "isinstance" = none
  int_ : mg "int" = none
  list_ : mg "list" = none
  tuple_ : mg "tuple" = none
  dict_ : mg "dict" = none
abbrev boot_len_ := PySem.boot_len
theorem boot_abs_ : bootBuiltins "abs" = some (.builtin "abs") := by decide +kernel
theorem boot_sorted_ : bootBuiltins "sorted" = some (.builtin "sorted") := by decide +kernel
theorem boot_isinstance_ : bootBuiltins "isinstance" = some (.builtin "isinstance") := by decide +kernel
theorem boot_int_ : bootBuiltins "int" = some (.type "int") := by decide +kernel
theorem boot_list_ : bootBuiltins "list" = some (.type "list") := by decide +kernel
theorem boot_tuple_ : bootBuiltins "tuple" = some (.type "tuple") := by decide +kernel
theorem boot_dict_ : bootBuiltins "dict" = some (.type "dict") := by decide +kernel
theorem hw_of {A : Around} {k : Nat} (hr : Room k A) : A.units + 64 < cLine := by have := hr.un; omega
section
variable {P : Program} {w : World} {K : PySem.W.Frag} {mg : Str → Option Value} {base : Heap}
abbrev srows_of : Stmt := top 1
abbrev Nrows_of : List Str := ["make", "word", "row"]
abbrev Prows_of : List Str := ["make", "word"]
theorem scrows_of : FnScope Nrows_of Prows_of (defScope srows_of) := ⟨rfl, rfl, rfl, by decide +kernel, rfl, by decide +kernel, by decide +kernel⟩
@[reducible] def trows_of_s0 : RS :=
  (dRet (dLc (diTup (d2 rIxD (dVar 0) (dC (.int 3)))) (dgName 2) (dTb (d2 rEqD (d2 rIxD (dVar 2) (dC (.int 0))) (dVar 1))) (dVar 2) [2]))
def trows_of : RS :=
  trows_of_s0
theorem dvrows_of {cdv : Value} {A : Around} {outer : List Env} {s : Shared} {H : Hp} {E : XK} {f : Addr} {B : Bs} (bi : BI mg)  (hr : Room 0 (A.deeper (envOfC "rows_of" (defScope srows_of) s.heap.objs.size f cdv))) :
    JSs (cxOf CX0 P w K mg base Nrows_of "rows_of" (defScope srows_of) f cdv A outer s H E).nox B (defBody srows_of) trows_of := by
  have hu := hu_of hr
  have hw := hw_of hr
  have nd := scrows_of.nd
  exact (dss_one (ds_ret (by refine de_lc (own := [("row", 2)]) ?_ ?_ ?_ ?_ ?_ ?_ ?_ ?_; exact rfl; exact nd; exact (di_tup (de_ix hu (dv 0) de_int)); exact blkOk_by (N := Nrows_of) (sc := defScope srows_of) (by decide +kernel); exact fun _ _ _ _ _ _ => (dg_name (i := 2) (by decide) nd rfl (by first | exact Or.inl rfl | exact Or.inr rfl)); exact fun _ _ _ _ _ _ => (dts_one (dt_cmp (od_eq hw) (de_ix hu (dv 2) de_int) (dv 1) (by first | exact nomark _ | rfl))); exact fun _ _ _ _ _ _ => (dv 2); exact fun _ => rfl)))
abbrev skept_number : Stmt := top 2
abbrev Nkept_number : List Str := ["keys", "was", "make", "row", "word", "key", "least", "most", "first", "carry", "spot", "had", "elder"]
abbrev Pkept_number : List Str := ["keys", "was", "make", "row"]
theorem sckept_number : FnScope Nkept_number Pkept_number (defScope skept_number) := ⟨rfl, rfl, rfl, by decide +kernel, rfl, by decide +kernel, by decide +kernel⟩
@[reducible] def tkept_number_s0 : RS :=
  (dAsg (dVar 3) (dgTup 6 (dgCons (dgName 4) (dgCons (dgName 5) (dgCons (dgName 6) (dgCons (dgName 7) (dgCons (dgName 8) (dgCons (dgName 9) dgNil))))))))
@[reducible] def tkept_number_s1 : RS :=
  (dSet 10 (dTup (dCons (d2 rIxD (dVar 2) (dC (.int 1))) (dCons (dVar 5) dNil))))
@[reducible] def tkept_number_s2 : RS :=
  (dIfS (dOr (dTb (d2 rIsND (dVar 1) (dC .non))) (dTb (d2 (rInD true) (dVar 10) (dVar 0)))) (dRet (dVar 8)) dNext)
@[reducible] def tkept_number_s3 : RS :=
  (dIfS (dTb (d2 rEqD (dVar 1) (dVar 2))) (dRet (d2 rIxD (dVar 0) (dVar 10))) dNext)
@[reducible] def tkept_number_s4 : RS :=
  (dSet 11 (dLc (diLst (dCall sprows_of [] (dCons (dVar 1) (dCons (dC (.str "key")) dNil)))) (dgName 12) (dTb (d2 rEqD (d2 rIxD (dVar 12) (dC (.int 1))) (dVar 5))) (dVar 12) [12]))
@[reducible] def tkept_number_s5 : RS :=
  (dIfS (dAnd (dTb (d2 rNeD (dVar 11) (dLst dNil))) (dAnd (dTb (d2 rEqD (dVar 9) (dC (.str "kept")))) (dTb (dChain rLeI rLeI (dVar 6) (d2 rIxD (dVar 0) (dVar 10)) (dVar 7))))) (dRet (d2 rIxD (dVar 0) (dVar 10))) dNext)
@[reducible] def tkept_number_s6 : RS :=
  (dRet (dVar 8))
def tkept_number : RS :=
  dSeq tkept_number_s0 (dSeq tkept_number_s1 (dSeq tkept_number_s2 (dSeq tkept_number_s3 (dSeq tkept_number_s4 (dSeq tkept_number_s5 (tkept_number_s6))))))
theorem dvkept_number {cdv : Value} {A : Around} {outer : List Env} {s : Shared} {H : Hp} {E : XK} {f : Addr} {B : Bs} (bi : BI mg) (crows_of : Callee P w K mg base 1 "rows_of" Prows_of sprows_of) (hr : Room 1 (A.deeper (envOfC "kept_number" (defScope skept_number) s.heap.objs.size f cdv))) :
    JSs (cxOf CX0 P w K mg base Nkept_number "kept_number" (defScope skept_number) f cdv A outer s H E).nox B (defBody skept_number) tkept_number := by
  have hu := hu_of hr
  have hw := hw_of hr
  have nd := sckept_number.nd
  exact (dss_cons (ds_asg (vs := [4, 5, 6, 7, 8, 9]) (dv 3) (dg_tup rfl (dgs_cons (dg_name (i := 4) (by decide) nd rfl (by first | exact Or.inl rfl | exact Or.inr rfl)) (dgs_cons (dg_name (i := 5) (by decide) nd rfl (by first | exact Or.inl rfl | exact Or.inr rfl)) (dgs_cons (dg_name (i := 6) (by decide) nd rfl (by first | exact Or.inl rfl | exact Or.inr rfl)) (dgs_cons (dg_name (i := 7) (by decide) nd rfl (by first | exact Or.inl rfl | exact Or.inr rfl)) (dgs_cons (dg_name (i := 8) (by decide) nd rfl (by first | exact Or.inl rfl | exact Or.inr rfl)) (dgs_cons (dg_name (i := 9) (by decide) nd rfl (by first | exact Or.inl rfl | exact Or.inr rfl)) dgs_nil))))))))
  (dss_cons (ds_set (i := 10) nd rfl (by first | exact Or.inl rfl | exact Or.inr rfl) (de_tup (da_cons (de_ix hu (dv 2) de_int) (da_cons (dv 5) da_nil))))
  (dss_cons (ds_if (dt_w (dw_or (dt_cmp od_isN (dv 1) de_non (by first | exact nomark _ | rfl)) (dw_or1 (dt_cmp (od_notIn hu) (dv 10) (dv 0) (by first | exact nomark _ | rfl))))) (dss_one (ds_ret (dv 8))) dss_nil)
  (dss_cons (ds_if (dt_cmp (od_eq hw) (dv 1) (dv 2) (by first | exact nomark _ | rfl)) (dss_one (ds_ret (de_ix hu (dv 0) (dv 10)))) dss_nil)
  (dss_cons (by refine ds_setLc (own := [("elder", 12)]) (i := 11) ?_ ?_ ?_ ?_ ?_ ?_ ?_ ?_ ?_ ?_ ?_; exact rfl; exact nd; exact rfl; exact rfl; exact sw_true rfl rfl rfl (by decide +kernel); exact (di_lst (de_fn crows_of (hr.mono (by first | decide | exact Nat.le_refl _)) (da_cons (dv 1) (da_cons de_str da_nil)))); exact blkOk_by (N := Nkept_number) (sc := defScope skept_number) (by decide +kernel); exact fun _ _ _ _ _ _ => (dg_name (i := 12) (by decide) nd rfl (by first | exact Or.inl rfl | exact Or.inr rfl)); exact fun _ _ _ _ _ _ => (dts_one (dt_cmp (od_eq hw) (de_ix hu (dv 12) de_int) (dv 5) (by first | exact nomark _ | rfl))); exact fun _ _ _ _ _ _ => (dv 12); exact fun _ => rfl)
  (dss_cons (ds_if (dt_w (dw_and (dt_cmp (od_ne hw) (dv 11) (de_lst da_nil) (by first | exact nomark _ | rfl)) (dw_and (dt_cmp (od_eq hw) (dv 9) de_str (by first | exact nomark _ | rfl)) (dw_and1 (dt_chain od_le od_le (dv 6) (de_ix hu (dv 0) (dv 10)) (dv 7)))))) (dss_one (ds_ret (de_ix hu (dv 0) (dv 10)))) dss_nil)
  (dss_one (ds_ret (dv 8)))))))))
abbrev skeys_over : Stmt := top 3
abbrev Nkeys_over : List Str := ["keys", "elder", "newer", "found", "make", "was", "one", "row"]
abbrev Pkeys_over : List Str := ["keys", "elder", "newer"]
theorem sckeys_over : FnScope Nkeys_over Pkeys_over (defScope skeys_over) := ⟨rfl, rfl, rfl, by decide +kernel, rfl, by decide +kernel, by decide +kernel⟩
@[reducible] def tkeys_over_b0 : RS :=
  (dPut (dVar 3) (dTup (dCons (d2 rIxD (dVar 4) (dC (.int 1))) (dCons (d2 rIxD (dVar 7) (dC (.int 1))) dNil))) (dCall spkept_number [] (dCons (dVar 0) (dCons (dVar 5) (dCons (dVar 4) (dCons (dVar 7) dNil))))))
@[reducible] def tkeys_over_b1 : RS :=
  (dSeq (dSet 5 (d2 rIxD (d2 rAddD (dLc (diLst (dVar 1)) (dgName 6) (dTb (d2 rEqD (d2 rIxD (dVar 6) (dC (.int 1))) (d2 rIxD (dVar 4) (dC (.int 1))))) (dVar 6) [6]) (dLst (dCons (dC .non) dNil))) (dC (.int 0))))
  (dFor (diLst (dCall sprows_of [] (dCons (dVar 4) (dCons (dC (.str "key")) dNil)))) (dgName 7)
  tkeys_over_b0))
@[reducible] def tkeys_over_s0 : RS :=
  (dSet 3 dDctO)
@[reducible] def tkeys_over_s1 : RS :=
  (dFor (diLst (dVar 2)) (dgName 4)
  tkeys_over_b1)
@[reducible] def tkeys_over_s2 : RS :=
  (dRet (dVar 3))
def tkeys_over : RS :=
  dSeq tkeys_over_s0 (dSeq tkeys_over_s1 (tkeys_over_s2))
theorem dvkeys_over {cdv : Value} {A : Around} {outer : List Env} {s : Shared} {H : Hp} {E : XK} {f : Addr} {B : Bs} (bi : BI mg) (ckept_number : Callee P w K mg base 2 "kept_number" Pkept_number spkept_number) (crows_of : Callee P w K mg base 1 "rows_of" Prows_of sprows_of) (hr : Room 2 (A.deeper (envOfC "keys_over" (defScope skeys_over) s.heap.objs.size f cdv))) :
    JSs (cxOf CX0 P w K mg base Nkeys_over "keys_over" (defScope skeys_over) f cdv A outer s H E).nox B (defBody skeys_over) tkeys_over := by
  have hu := hu_of hr
  have hw := hw_of hr
  have nd := sckeys_over.nd
  exact (dss_cons (ds_set (i := 3) nd rfl (by first | exact Or.inl rfl | exact Or.inr rfl) de_dctO)
  (dss_cons (ds_for (vs := [4]) .never rfl (di_lst (dv 2)) (dg_name (i := 4) (by decide) nd rfl (by first | exact Or.inl rfl | exact Or.inr rfl))
  (dss_cons (ds_set (i := 5) nd rfl (by first | exact Or.inl rfl | exact Or.inr rfl) (de_ix hu (de_op od_add (by refine de_lc (own := [("one", 6)]) ?_ ?_ ?_ ?_ ?_ ?_ ?_ ?_; exact rfl; exact nd; exact (di_lst (dv 1)); exact blkOk_by (N := Nkeys_over) (sc := defScope skeys_over) (by decide +kernel); exact fun _ _ _ _ _ _ => (dg_name (i := 6) (by decide) nd rfl (by first | exact Or.inl rfl | exact Or.inr rfl)); exact fun _ _ _ _ _ _ => (dts_one (dt_cmp (od_eq hw) (de_ix hu (dv 6) de_int) (de_ix hu (dv 4) de_int) (by first | exact nomark _ | rfl))); exact fun _ _ _ _ _ _ => (dv 6); exact fun _ => rfl) (de_lst (da_cons de_non da_nil))) de_int))
  (dss_one (ds_for (vs := [7]) .never rfl (di_lst (de_fn crows_of (hr.mono (by first | decide | exact Nat.le_refl _)) (da_cons (dv 4) (da_cons de_str da_nil)))) (dg_name (i := 7) (by decide) nd rfl (by first | exact Or.inl rfl | exact Or.inr rfl))
  (dss_one (ds_put hu (dv 3) (de_tup (da_cons (de_ix hu (dv 4) de_int) (da_cons (de_ix hu (dv 7) de_int) da_nil))) (de_fn ckept_number (hr.mono (by first | decide | exact Nat.le_refl _)) (da_cons (dv 0) (da_cons (dv 5) (da_cons (dv 4) (da_cons (dv 7) da_nil))))))) (fun _ => rfl)))) (fun _ => rfl))
  (dss_one (ds_ret (dv 3)))))
abbrev sshelves_over : Stmt := top 4
abbrev Nshelves_over : List Str := ["shelves", "elder", "newer", "owned", "make", "row", "found", "word", "shelf", "least", "most", "first"]
abbrev Pshelves_over : List Str := ["shelves", "elder", "newer"]
theorem scshelves_over : FnScope Nshelves_over Pshelves_over (defScope sshelves_over) := ⟨rfl, rfl, rfl, by decide +kernel, rfl, by decide +kernel, by decide +kernel⟩
@[reducible] def tshelves_over_b0 : RS :=
  (dSeq (dPut (dVar 6) (dVar 8) (dVar 11))
  (dIfS (dAnd (dTb (d2 (rInD false) (dVar 8) (dVar 3))) (dAnd (dTb (d2 (rInD false) (dVar 8) (dVar 0))) (dTb (dChain rLeI rLeI (dVar 9) (d2 rIxD (dVar 0) (dVar 8)) (dVar 10))))) (dPut (dVar 6) (dVar 8) (d2 rIxD (dVar 0) (dVar 8))) dNext))
@[reducible] def tshelves_over_b1 : RS :=
  (dFor (diLst (dCall sprows_of [] (dCons (dVar 4) (dCons (dC (.str "own")) dNil)))) (dgTup 5 (dgCons (dgName 7) (dgCons (dgName 8) (dgCons (dgName 9) (dgCons (dgName 10) (dgCons (dgName 11) dgNil))))))
  tshelves_over_b0)
@[reducible] def tshelves_over_s0 : RS :=
  (dSet 3 (dDc2 (diLst (dVar 1)) (dgName 4) dYes (diLst (dCall sprows_of [] (dCons (dVar 4) (dCons (dC (.str "own")) dNil)))) (dgName 5) dYes (d2 rIxD (dVar 5) (dC (.int 1))) (dC (.bl true)) [4, 5] [5]))
@[reducible] def tshelves_over_s1 : RS :=
  (dSet 6 dDctO)
@[reducible] def tshelves_over_s2 : RS :=
  (dFor (diLst (dVar 2)) (dgName 4)
  tshelves_over_b1)
@[reducible] def tshelves_over_s3 : RS :=
  (dRet (dVar 6))
def tshelves_over : RS :=
  dSeq tshelves_over_s0 (dSeq tshelves_over_s1 (dSeq tshelves_over_s2 (tshelves_over_s3)))
theorem dvshelves_over {cdv : Value} {A : Around} {outer : List Env} {s : Shared} {H : Hp} {E : XK} {f : Addr} {B : Bs} (bi : BI mg) (crows_of : Callee P w K mg base 1 "rows_of" Prows_of sprows_of) (hr : Room 1 (A.deeper (envOfC "shelves_over" (defScope sshelves_over) s.heap.objs.size f cdv))) :
    JSs (cxOf CX0 P w K mg base Nshelves_over "shelves_over" (defScope sshelves_over) f cdv A outer s H E).nox B (defBody sshelves_over) tshelves_over := by
  have hu := hu_of hr
  have hw := hw_of hr
  have nd := scshelves_over.nd
  exact (dss_cons (by refine ds_setDc2 (i := 3) (own := [("make", 4), ("row", 5)]) (ws := [5]) ?_ ?_ ?_ ?_ ?_ ?_ ?_ ?_ ?_ ?_ ?_ ?_ ?_ ?_ ?_ ?_ ?_; exact rfl; exact nd; exact rfl; exact rfl; exact sw_trueD rfl rfl rfl (by decide +kernel); exact (di_lst (dv 1)); exact blkOk_by (N := Nshelves_over) (sc := defScope sshelves_over) (by decide +kernel); decide; exact fun _ _ _ _ _ _ => (dg_name (i := 4) (by decide) nd rfl (by first | exact Or.inl rfl | exact Or.inr rfl)); exact fun _ _ _ _ _ _ => dts_nil; exact fun _ _ _ _ _ _ => (di_lst (de_fn crows_of (hr.mono (by first | decide | exact Nat.le_refl _)) (da_cons (dv 4) (da_cons de_str da_nil)))); exact fun _ _ _ _ _ _ => (dg_name (i := 5) (by decide) nd rfl (by first | exact Or.inl rfl | exact Or.inr rfl)); exact fun _ _ _ _ _ _ => dts_nil; exact fun _ _ _ _ _ _ => (de_ix hu (dv 5) de_int); exact fun _ _ _ _ _ _ => de_bl; exact fun _ => rfl; exact fun _ _ => rfl)
  (dss_cons (ds_set (i := 6) nd rfl (by first | exact Or.inl rfl | exact Or.inr rfl) de_dctO)
  (dss_cons (ds_for (vs := [4]) .never rfl (di_lst (dv 2)) (dg_name (i := 4) (by decide) nd rfl (by first | exact Or.inl rfl | exact Or.inr rfl))
  (dss_one (ds_for (vs := [7, 8, 9, 10, 11]) .never rfl (di_lst (de_fn crows_of (hr.mono (by first | decide | exact Nat.le_refl _)) (da_cons (dv 4) (da_cons de_str da_nil)))) (dg_tup rfl (dgs_cons (dg_name (i := 7) (by decide) nd rfl (by first | exact Or.inl rfl | exact Or.inr rfl)) (dgs_cons (dg_name (i := 8) (by decide) nd rfl (by first | exact Or.inl rfl | exact Or.inr rfl)) (dgs_cons (dg_name (i := 9) (by decide) nd rfl (by first | exact Or.inl rfl | exact Or.inr rfl)) (dgs_cons (dg_name (i := 10) (by decide) nd rfl (by first | exact Or.inl rfl | exact Or.inr rfl)) (dgs_cons (dg_name (i := 11) (by decide) nd rfl (by first | exact Or.inl rfl | exact Or.inr rfl)) dgs_nil))))))
  (dss_cons (ds_put hu (dv 6) (dv 8) (dv 11))
  (dss_one (ds_if (dt_w (dw_and (dt_cmp (od_in hu) (dv 8) (dv 3) (by first | exact nomark _ | rfl)) (dw_and (dt_cmp (od_in hu) (dv 8) (dv 0) (by first | exact nomark _ | rfl)) (dw_and1 (dt_chain od_le od_le (dv 9) (de_ix hu (dv 0) (dv 8)) (dv 10)))))) (dss_one (ds_put hu (dv 6) (dv 8) (de_ix hu (dv 0) (dv 8)))) dss_nil))) (fun _ => rfl))) (fun _ => rfl))
  (dss_one (ds_ret (dv 6))))))
abbrev sgone_over : Stmt := top 5
abbrev Ngone_over : List Str := ["keys", "shelves", "elder", "newer"]
abbrev Pgone_over : List Str := ["keys", "shelves", "elder", "newer"]
theorem scgone_over : FnScope Ngone_over Pgone_over (defScope sgone_over) := ⟨rfl, rfl, rfl, by decide +kernel, rfl, by decide +kernel, by decide +kernel⟩
@[reducible] def tgone_over_s0 : RS :=
  (dRet (dTup (dCons (dCall spkeys_over [] (dCons (dVar 0) (dCons (dVar 2) (dCons (dVar 3) dNil)))) (dCons (dCall spshelves_over [] (dCons (dVar 1) (dCons (dVar 2) (dCons (dVar 3) dNil)))) dNil))))
def tgone_over : RS :=
  tgone_over_s0
theorem dvgone_over {cdv : Value} {A : Around} {outer : List Env} {s : Shared} {H : Hp} {E : XK} {f : Addr} {B : Bs} (bi : BI mg) (ckeys_over : Callee P w K mg base 3 "keys_over" Pkeys_over spkeys_over) (cshelves_over : Callee P w K mg base 2 "shelves_over" Pshelves_over spshelves_over) (hr : Room 3 (A.deeper (envOfC "gone_over" (defScope sgone_over) s.heap.objs.size f cdv))) :
    JSs (cxOf CX0 P w K mg base Ngone_over "gone_over" (defScope sgone_over) f cdv A outer s H E).nox B (defBody sgone_over) tgone_over := by
  have hu := hu_of hr
  have hw := hw_of hr
  have nd := scgone_over.nd
  exact (dss_one (ds_ret (de_tup (da_cons (de_fn ckeys_over (hr.mono (by first | decide | exact Nat.le_refl _)) (da_cons (dv 0) (da_cons (dv 2) (da_cons (dv 3) da_nil)))) (da_cons (de_fn cshelves_over (hr.mono (by first | decide | exact Nat.le_refl _)) (da_cons (dv 1) (da_cons (dv 2) (da_cons (dv 3) da_nil)))) da_nil)))))
abbrev s_law_bag : Stmt := top 7
abbrev N_law_bag : List Str := ["_law_script", "_law_cell"]
abbrev P_law_bag : List Str := ["_law_script"]
theorem sc_law_bag : FnScope N_law_bag P_law_bag (defScope s_law_bag) := ⟨rfl, rfl, rfl, by decide +kernel, rfl, by decide +kernel, by decide +kernel⟩
@[reducible] def t_law_bag_s0 : RS :=
  (dRet (dLstO (dCons (dC (.int 0)) (dCons (dC (.int 1234567891)) (dCons (dC (.int 0)) (dCons (dLc (diLst (dSl (dVar 0) dNoPart (dPart (dC (.int 63))))) (dgName 1) dYes (dCB rAbs (dCons (dVar 1) dNil)) [1]) dNil))))))
def t_law_bag : RS :=
  t_law_bag_s0
theorem dv_law_bag {cdv : Value} {A : Around} {outer : List Env} {s : Shared} {H : Hp} {E : XK} {f : Addr} {B : Bs} (bi : BI mg)  (hr : Room 0 (A.deeper (envOfC "_law_bag" (defScope s_law_bag) s.heap.objs.size f cdv))) :
    JSs (cxOf CX0 P w K mg base N_law_bag "_law_bag" (defScope s_law_bag) f cdv A outer s H E).nox B (defBody s_law_bag) t_law_bag := by
  have hu := hu_of hr
  have hw := hw_of hr
  have nd := sc_law_bag.nd
  exact (dss_one (ds_ret (de_lstO (da_cons de_int (da_cons de_int (da_cons de_int (da_cons (by refine de_lc (own := [("_law_cell", 1)]) ?_ ?_ ?_ ?_ ?_ ?_ ?_ ?_; exact rfl; exact nd; exact (di_lst (de_slice (dv 0) do_none (do_some de_int))); exact blkOk_by (N := N_law_bag) (sc := defScope s_law_bag) (by decide +kernel); exact fun _ _ _ _ _ _ => (dg_name (i := 1) (by decide) nd rfl (by first | exact Or.inl rfl | exact Or.inr rfl)); exact fun _ _ _ _ _ _ => dts_nil; exact fun _ _ _ _ _ _ => (de_callB cd_abs rfl bi.abs boot_abs_ (da_cons (dv 1) da_nil)); exact fun _ => rfl) da_nil)))))))
abbrev s_law_take : Stmt := top 8
abbrev N_law_take : List Str := ["_law_bag_here", "_law_many", "_law_cell", "_law_value", "_law_first", "_law_second"]
abbrev P_law_take : List Str := ["_law_bag_here", "_law_many"]
theorem sc_law_take : FnScope N_law_take P_law_take (defScope s_law_take) := ⟨rfl, rfl, rfl, by decide +kernel, rfl, by decide +kernel, by decide +kernel⟩
@[reducible] def t_law_take_s0 : RS :=
  (dIfS (dTb (d2 rEqD (d2 rIxD (dVar 0) (dC (.int 0))) (dC (.int 0)))) (dSeq (dSet 2 (dC (.int 0)))
  (dSeq (dIfS (dTb (d2 rLtI (d2 rIxD (dVar 0) (dC (.int 2))) (dCB rLenD (dCons (d2 rIxD (dVar 0) (dC (.int 3))) dNil)))) (dSet 2 (d2 rIxD (d2 rIxD (dVar 0) (dC (.int 3))) (d2 rIxD (dVar 0) (dC (.int 2))))) dNext)
  (dSeq (dAugS (dVar 0) (dC (.int 2)) (dC (.int 1)) rIAddD)
  (dSeq (dIfS (dTb (d2 rGeI (dVar 2) (dC (.int 1000000000000000000)))) (dPut (dVar 0) (dC (.int 0)) (dVar 2)) dNext)
  (dPut (dVar 0) (dC (.int 1)) (d2 rModD (d2 rAddD (d2 rAddD (d2 rMulD (d2 rIxD (dVar 0) (dC (.int 1))) (dC (.int 48271))) (d2 rModD (dVar 2) (dC (.int 2147483647)))) (d2 rMulD (dC (.int 7919)) (d2 rIxD (dVar 0) (dC (.int 2))))) (dC (.int 2147483647)))))))) dNext)
@[reducible] def t_law_take_s1 : RS :=
  (dIfS (dTb (d2 rGtI (d2 rIxD (dVar 0) (dC (.int 0))) (dC (.int 0)))) (dSeq (dSet 3 (d2 rModD (d2 rIxD (dVar 0) (dC (.int 0))) (dVar 1)))
  (dSeq (dPut (dVar 0) (dC (.int 0)) (d2 rDivD (d2 rIxD (dVar 0) (dC (.int 0))) (dVar 1)))
  (dRet (dVar 3)))) dNext)
@[reducible] def t_law_take_s2 : RS :=
  (dSet 4 (d2 rModD (d2 rMulD (d2 rAddD (d2 rIxD (dVar 0) (dC (.int 1))) (dC (.int 1))) (dC (.int 39373))) (dC (.int 1000000007))))
@[reducible] def t_law_take_s3 : RS :=
  (dSet 5 (d2 rModD (d2 rMulD (d2 rModD (d2 rMulD (dVar 4) (dVar 4)) (dC (.int 998244353))) (dC (.int 30011))) (dC (.int 998244353))))
@[reducible] def t_law_take_s4 : RS :=
  (dIfS (dTb (d2 rGtI (dVar 1) (dC (.int 1000000)))) (dRet (d2 rModD (d2 rAddD (d2 rMulD (dVar 5) (dC (.int 1000000007))) (dVar 4)) (dVar 1))) dNext)
@[reducible] def t_law_take_s5 : RS :=
  (dRet (d2 rModD (d2 rDivD (dVar 5) (dC (.int 7))) (dVar 1)))
def t_law_take : RS :=
  dSeq t_law_take_s0 (dSeq t_law_take_s1 (dSeq t_law_take_s2 (dSeq t_law_take_s3 (dSeq t_law_take_s4 (t_law_take_s5)))))
theorem dv_law_take {cdv : Value} {A : Around} {outer : List Env} {s : Shared} {H : Hp} {E : XK} {f : Addr} {B : Bs} (bi : BI mg)  (hr : Room 0 (A.deeper (envOfC "_law_take" (defScope s_law_take) s.heap.objs.size f cdv))) :
    JSs (cxOf CX0 P w K mg base N_law_take "_law_take" (defScope s_law_take) f cdv A outer s H E).nox B (defBody s_law_take) t_law_take := by
  have hu := hu_of hr
  have hw := hw_of hr
  have nd := sc_law_take.nd
  exact (dss_cons (ds_if (dt_cmp (od_eq hw) (de_ix hu (dv 0) de_int) de_int (by first | exact nomark _ | rfl)) (dss_cons (ds_set (i := 2) nd rfl (by first | exact Or.inl rfl | exact Or.inr rfl) de_int)
  (dss_cons (ds_if (dt_cmp od_lt (de_ix hu (dv 0) de_int) (de_callB cd_len rfl bi.len boot_len_ (da_cons (de_ix hu (dv 0) de_int) da_nil)) (by first | exact nomark _ | rfl)) (dss_one (ds_set (i := 2) nd rfl (by first | exact Or.inl rfl | exact Or.inr rfl) (de_ix hu (de_ix hu (dv 0) de_int) (de_ix hu (dv 0) de_int)))) dss_nil)
  (dss_cons (ds_augS hu (dv 0) de_int de_int iod_add)
  (dss_cons (ds_if (dt_cmp od_ge (dv 2) de_int (by first | exact nomark _ | rfl)) (dss_one (ds_put hu (dv 0) de_int (dv 2))) dss_nil)
  (dss_one (ds_put hu (dv 0) de_int (de_op od_mod (de_op od_add (de_op od_add (de_op od_mul (de_ix hu (dv 0) de_int) de_int) (de_op od_mod (dv 2) de_int)) (de_op od_mul de_int (de_ix hu (dv 0) de_int))) de_int))))))) dss_nil)
  (dss_cons (ds_if (dt_cmp od_gt (de_ix hu (dv 0) de_int) de_int (by first | exact nomark _ | rfl)) (dss_cons (ds_set (i := 3) nd rfl (by first | exact Or.inl rfl | exact Or.inr rfl) (de_op od_mod (de_ix hu (dv 0) de_int) (dv 1)))
  (dss_cons (ds_put hu (dv 0) de_int (de_op od_fdiv (de_ix hu (dv 0) de_int) (dv 1)))
  (dss_one (ds_ret (dv 3))))) dss_nil)
  (dss_cons (ds_set (i := 4) nd rfl (by first | exact Or.inl rfl | exact Or.inr rfl) (de_op od_mod (de_op od_mul (de_op od_add (de_ix hu (dv 0) de_int) de_int) de_int) de_int))
  (dss_cons (ds_set (i := 5) nd rfl (by first | exact Or.inl rfl | exact Or.inr rfl) (de_op od_mod (de_op od_mul (de_op od_mod (de_op od_mul (dv 4) (dv 4)) de_int) de_int) de_int))
  (dss_cons (ds_if (dt_cmp od_gt (dv 1) de_int (by first | exact nomark _ | rfl)) (dss_one (ds_ret (de_op od_mod (de_op od_add (de_op od_mul (dv 5) de_int) (dv 4)) (dv 1)))) dss_nil)
  (dss_one (ds_ret (de_op od_mod (de_op od_fdiv (dv 5) de_int) (dv 1)))))))))
abbrev s_law_copy : Stmt := top 10
abbrev N_law_copy : List Str := ["_law_thing", "_law_one", "_law_name"]
abbrev P_law_copy : List Str := ["_law_thing"]
theorem sc_law_copy : FnScope N_law_copy P_law_copy (defScope s_law_copy) := ⟨rfl, rfl, rfl, by decide +kernel, rfl, by decide +kernel, by decide +kernel⟩
@[reducible] def t_law_copy_s0 (sprec : DSp) : RS :=
  (dIfS (dTb (dCB rIsInst (dCons (dVar 0) (dCons (dC (.ty "list")) dNil)))) (dRet (dLc (diLst (dVar 0)) (dgName 1) dYes (dCall sprec [] (dCons (dVar 1) dNil)) [1])) dNext)
@[reducible] def t_law_copy_s1 (sprec : DSp) : RS :=
  (dIfS (dTb (dCB rIsInst (dCons (dVar 0) (dCons (dC (.ty "tuple")) dNil)))) (dRet (dCB rTupleC (dCons (dLc (diTup (dVar 0)) (dgName 1) dYes (dCall sprec [] (dCons (dVar 1) dNil)) [1]) dNil))) dNext)
@[reducible] def t_law_copy_s2 (sprec : DSp) : RS :=
  (dIfS (dTb (dCB rIsInst (dCons (dVar 0) (dCons (dC (.ty "dict")) dNil)))) (dRet (dCB rDictC (dCons (dLc (diKeys (dVar 0)) (dgName 2) dYes (dTup (dCons (dVar 2) (dCons (dCall sprec [] (dCons (d2 rIxD (dVar 0) (dVar 2)) dNil)) dNil))) [2]) dNil))) dNext)
@[reducible] def t_law_copy_s3 (sprec : DSp) : RS :=
  (dRet (dVar 0))
def t_law_copy (sprec : DSp) : RS :=
  dSeq (t_law_copy_s0 sprec) (dSeq (t_law_copy_s1 sprec) (dSeq (t_law_copy_s2 sprec) (t_law_copy_s3 sprec)))
theorem dv_law_copy {cdv : Value} {A : Around} {outer : List Env} {s : Shared} {H : Hp} {E : XK} {f : Addr} {B : Bs} (bi : BI mg)  {sprec : DSp} {lv : Nat} (c_law_copy : Callee P w K mg base lv "_law_copy" P_law_copy sprec) (hr : Room lv (A.deeper (envOfC "_law_copy" (defScope s_law_copy) s.heap.objs.size f cdv))) :
    JSs (cxOf CX0 P w K mg base N_law_copy "_law_copy" (defScope s_law_copy) f cdv A outer s H E).nox B (defBody s_law_copy) (t_law_copy sprec) := by
  have hu := hu_of hr
  have hw := hw_of hr
  have nd := sc_law_copy.nd
  exact (dss_cons (ds_if (dt_val (de_callB cd_isinst rfl bi.isinstance boot_isinstance_ (da_cons (dv 0) (da_cons (de_type "list" rfl bi.list_ boot_list_) da_nil)))) (dss_one (ds_ret (by refine de_lc (own := [("_law_one", 1)]) ?_ ?_ ?_ ?_ ?_ ?_ ?_ ?_; exact rfl; exact nd; exact (di_lst (dv 0)); exact blkOk_by (N := N_law_copy) (sc := defScope s_law_copy) (by decide +kernel); exact fun _ _ _ _ _ _ => (dg_name (i := 1) (by decide) nd rfl (by first | exact Or.inl rfl | exact Or.inr rfl)); exact fun _ _ _ _ _ _ => dts_nil; exact fun _ _ _ _ _ _ => (de_fn c_law_copy (hr.mono (by first | decide | exact Nat.le_refl _)) (da_cons (dv 1) da_nil)); exact fun _ => rfl))) dss_nil)
  (dss_cons (ds_if (dt_val (de_callB cd_isinst rfl bi.isinstance boot_isinstance_ (da_cons (dv 0) (da_cons (de_type "tuple" rfl bi.tuple_ boot_tuple_) da_nil)))) (dss_one (ds_ret (de_callTy cd_tuple rfl bi.tuple_ boot_tuple_ (da_cons (by refine de_lc (own := [("_law_one", 1)]) ?_ ?_ ?_ ?_ ?_ ?_ ?_ ?_; exact rfl; exact nd; exact (di_tup (dv 0)); exact blkOk_by (N := N_law_copy) (sc := defScope s_law_copy) (by decide +kernel); exact fun _ _ _ _ _ _ => (dg_name (i := 1) (by decide) nd rfl (by first | exact Or.inl rfl | exact Or.inr rfl)); exact fun _ _ _ _ _ _ => dts_nil; exact fun _ _ _ _ _ _ => (de_fn c_law_copy (hr.mono (by first | decide | exact Nat.le_refl _)) (da_cons (dv 1) da_nil)); exact fun _ => rfl) da_nil)))) dss_nil)
  (dss_cons (ds_if (dt_val (de_callB cd_isinst rfl bi.isinstance boot_isinstance_ (da_cons (dv 0) (da_cons (de_type "dict" rfl bi.dict_ boot_dict_) da_nil)))) (dss_one (ds_ret (de_callTy (cd_dict rfl hw) rfl bi.dict_ boot_dict_ (da_cons (by refine de_lc (own := [("_law_name", 2)]) ?_ ?_ ?_ ?_ ?_ ?_ ?_ ?_; exact rfl; exact nd; exact (di_keys (dv 0)); exact blkOk_by (N := N_law_copy) (sc := defScope s_law_copy) (by decide +kernel); exact fun _ _ _ _ _ _ => (dg_name (i := 2) (by decide) nd rfl (by first | exact Or.inl rfl | exact Or.inr rfl)); exact fun _ _ _ _ _ _ => dts_nil; exact fun _ _ _ _ _ _ => (de_tup (da_cons (dv 2) (da_cons (de_fn c_law_copy (hr.mono (by first | decide | exact Nat.le_refl _)) (da_cons (de_ix hu (dv 0) (dv 2)) da_nil)) da_nil))); exact fun _ => rfl) da_nil)))) dss_nil)
  (dss_one (ds_ret (dv 0))))))
abbrev s_law_row : Stmt := top 11
abbrev N_law_row : List Str := ["_law_bag_here", "_law_word", "_law_name", "_law_least", "_law_most", "_law_row_here"]
abbrev P_law_row : List Str := ["_law_bag_here", "_law_word", "_law_name"]
theorem sc_law_row : FnScope N_law_row P_law_row (defScope s_law_row) := ⟨rfl, rfl, rfl, by decide +kernel, rfl, by decide +kernel, by decide +kernel⟩
@[reducible] def t_law_row_s0 : RS :=
  (dSet 3 (d2 rSubD (dCall sp_law_take [] (dCons (dVar 0) (dCons (dC (.int 12)) dNil))) (dC (.int 6))))
@[reducible] def t_law_row_s1 : RS :=
  (dSet 4 (d2 rAddD (dVar 3) (dCall sp_law_take [] (dCons (dVar 0) (dCons (dC (.int 9)) dNil)))))
@[reducible] def t_law_row_s2 : RS :=
  (dSet 5 (dTup (dCons (dVar 1) (dCons (dVar 2) (dCons (dVar 3) (dCons (dVar 4) (dCons (d2 rAddD (dVar 3) (dCall sp_law_take [] (dCons (dVar 0) (dCons (d2 rAddD (d2 rSubD (dVar 4) (dVar 3)) (dC (.int 1))) dNil)))) dNil)))))))
@[reducible] def t_law_row_s3 : RS :=
  (dRet (d2 rIxD (dLst (dCons (dVar 5) (dCons (d2 rAddD (dVar 5) (dTup (dCons (d2 rIxD (dLst (dCons (dC (.str "kept")) (dCons (dC (.str "anew")) dNil))) (dCall sp_law_take [] (dCons (dVar 0) (dCons (dC (.int 2)) dNil)))) dNil))) dNil))) (dCB rIntC (dCons (d2 rEqD (dVar 1) (dC (.str "key"))) dNil))))
def t_law_row : RS :=
  dSeq t_law_row_s0 (dSeq t_law_row_s1 (dSeq t_law_row_s2 (t_law_row_s3)))
theorem dv_law_row {cdv : Value} {A : Around} {outer : List Env} {s : Shared} {H : Hp} {E : XK} {f : Addr} {B : Bs} (bi : BI mg) (c_law_take : Callee P w K mg base 1 "_law_take" P_law_take sp_law_take) (hr : Room 1 (A.deeper (envOfC "_law_row" (defScope s_law_row) s.heap.objs.size f cdv))) :
    JSs (cxOf CX0 P w K mg base N_law_row "_law_row" (defScope s_law_row) f cdv A outer s H E).nox B (defBody s_law_row) t_law_row := by
  have hu := hu_of hr
  have hw := hw_of hr
  have nd := sc_law_row.nd
  exact (dss_cons (ds_set (i := 3) nd rfl (by first | exact Or.inl rfl | exact Or.inr rfl) (de_op od_sub (de_fn c_law_take (hr.mono (by first | decide | exact Nat.le_refl _)) (da_cons (dv 0) (da_cons de_int da_nil))) de_int))
  (dss_cons (ds_set (i := 4) nd rfl (by first | exact Or.inl rfl | exact Or.inr rfl) (de_op od_add (dv 3) (de_fn c_law_take (hr.mono (by first | decide | exact Nat.le_refl _)) (da_cons (dv 0) (da_cons de_int da_nil)))))
  (dss_cons (ds_set (i := 5) nd rfl (by first | exact Or.inl rfl | exact Or.inr rfl) (de_tup (da_cons (dv 1) (da_cons (dv 2) (da_cons (dv 3) (da_cons (dv 4) (da_cons (de_op od_add (dv 3) (de_fn c_law_take (hr.mono (by first | decide | exact Nat.le_refl _)) (da_cons (dv 0) (da_cons (de_op od_add (de_op od_sub (dv 4) (dv 3)) de_int) da_nil)))) da_nil)))))))
  (dss_one (ds_ret (de_ix hu (de_lst (da_cons (dv 5) (da_cons (de_op od_add (dv 5) (de_tup (da_cons (de_ix hu (de_lst (da_cons de_str (da_cons de_str da_nil))) (de_fn c_law_take (hr.mono (by first | decide | exact Nat.le_refl _)) (da_cons (dv 0) (da_cons de_int da_nil)))) da_nil))) da_nil))) (de_callTy cd_int rfl bi.int_ boot_int_ (da_cons (de_cmp (od_eq hw) (dv 1) de_str (by first | exact nomark _ | rfl)) da_nil))))))))
abbrev s_law_names : Stmt := top 12
abbrev N_law_names : List Str := ["_law_bag_here", "_law_many", "_law_letters", "_law_size", "_law_base", "_law_k", "_law_at", "_law_turn"]
abbrev P_law_names : List Str := ["_law_bag_here", "_law_many"]
theorem sc_law_names : FnScope N_law_names P_law_names (defScope s_law_names) := ⟨rfl, rfl, rfl, by decide +kernel, rfl, by decide +kernel, by decide +kernel⟩
@[reducible] def t_law_names_s0 : RS :=
  (dSet 2 (dC (.str "abcdefghijklmnopqrstuvwxyz")))
@[reducible] def t_law_names_s1 : RS :=
  (dSet 3 (d2 rAddD (dC (.int 1)) (dCall sp_law_take [] (dCons (dVar 0) (dCons (dC (.int 8)) dNil)))))
@[reducible] def t_law_names_s2 : RS :=
  (dSet 4 (dBM "str" rJoin (dC (.str "")) (dCons (dLc (diRng1 (dCons (dVar 3) dNil)) (dgName 5) dYes (d2 rIxD (dVar 2) (dCall sp_law_take [] (dCons (dVar 0) (dCons (dC (.int 26)) dNil)))) [5]) dNil)))
@[reducible] def t_law_names_s3 : RS :=
  (dAsg (dTup (dCons (dCall sp_law_take [] (dCons (dVar 0) (dCons (dVar 3) dNil))) (dCons (dCall sp_law_take [] (dCons (dVar 0) (dCons (dC (.int 26)) dNil))) dNil))) (dgTup 2 (dgCons (dgName 6) (dgCons (dgName 7) dgNil))))
@[reducible] def t_law_names_s4 : RS :=
  (dRet (dLc (diRng1 (dCons (dVar 1) dNil)) (dgName 5) dYes (d2 rAddD (d2 rAddD (dSl (dVar 4) dNoPart (dPart (dVar 6))) (d2 rIxD (dVar 2) (d2 rModD (d2 rAddD (dVar 7) (d2 rMulD (dC (.int 3)) (dVar 5))) (dC (.int 26))))) (dSl (dVar 4) (dPart (d2 rAddD (dVar 6) (dC (.int 1)))) dNoPart)) [5]))
def t_law_names : RS :=
  dSeq t_law_names_s0 (dSeq t_law_names_s1 (dSeq t_law_names_s2 (dSeq t_law_names_s3 (t_law_names_s4))))
theorem dv_law_names {cdv : Value} {A : Around} {outer : List Env} {s : Shared} {H : Hp} {E : XK} {f : Addr} {B : Bs} (bi : BI mg) (c_law_take : Callee P w K mg base 1 "_law_take" P_law_take sp_law_take) (hr : Room 1 (A.deeper (envOfC "_law_names" (defScope s_law_names) s.heap.objs.size f cdv))) :
    JSs (cxOf CX0 P w K mg base N_law_names "_law_names" (defScope s_law_names) f cdv A outer s H E).nox B (defBody s_law_names) t_law_names := by
  have hu := hu_of hr
  have hw := hw_of hr
  have nd := sc_law_names.nd
  exact (dss_cons (ds_set (i := 2) nd rfl (by first | exact Or.inl rfl | exact Or.inr rfl) de_str)
  (dss_cons (ds_set (i := 3) nd rfl (by first | exact Or.inl rfl | exact Or.inr rfl) (de_op od_add de_int (de_fn c_law_take (hr.mono (by first | decide | exact Nat.le_refl _)) (da_cons (dv 0) (da_cons de_int da_nil)))))
  (dss_cons (ds_set (i := 4) nd rfl (by first | exact Or.inl rfl | exact Or.inr rfl) (de_bm PySem.F.plainAttrs_str PySem.F.slot_str_join PySem.F.type_str_join md_join de_str (da_cons (by refine de_lc (own := [("_law_k", 5)]) ?_ ?_ ?_ ?_ ?_ ?_ ?_ ?_; exact rfl; exact nd; exact (di_range1 rfl bi.range (da_cons (dv 3) da_nil)); exact blkOk_by (N := N_law_names) (sc := defScope s_law_names) (by decide +kernel); exact fun _ _ _ _ _ _ => (dg_name (i := 5) (by decide) nd rfl (by first | exact Or.inl rfl | exact Or.inr rfl)); exact fun _ _ _ _ _ _ => dts_nil; exact fun _ _ _ _ _ _ => (de_ix hu (dv 2) (de_fn c_law_take (hr.mono (by first | decide | exact Nat.le_refl _)) (da_cons (dv 0) (da_cons de_int da_nil)))); exact fun _ => rfl) da_nil)))
  (dss_cons (ds_asg (vs := [6, 7]) (de_tup (da_cons (de_fn c_law_take (hr.mono (by first | decide | exact Nat.le_refl _)) (da_cons (dv 0) (da_cons (dv 3) da_nil))) (da_cons (de_fn c_law_take (hr.mono (by first | decide | exact Nat.le_refl _)) (da_cons (dv 0) (da_cons de_int da_nil))) da_nil))) (dg_tup rfl (dgs_cons (dg_name (i := 6) (by decide) nd rfl (by first | exact Or.inl rfl | exact Or.inr rfl)) (dgs_cons (dg_name (i := 7) (by decide) nd rfl (by first | exact Or.inl rfl | exact Or.inr rfl)) dgs_nil))))
  (dss_one (ds_ret (by refine de_lc (own := [("_law_k", 5)]) ?_ ?_ ?_ ?_ ?_ ?_ ?_ ?_; exact rfl; exact nd; exact (di_range1 rfl bi.range (da_cons (dv 1) da_nil)); exact blkOk_by (N := N_law_names) (sc := defScope s_law_names) (by decide +kernel); exact fun _ _ _ _ _ _ => (dg_name (i := 5) (by decide) nd rfl (by first | exact Or.inl rfl | exact Or.inr rfl)); exact fun _ _ _ _ _ _ => dts_nil; exact fun _ _ _ _ _ _ => (de_op od_add (de_op od_add (de_slice (dv 4) do_none (do_some (dv 6))) (de_ix hu (dv 2) (de_op od_mod (de_op od_add (dv 7) (de_op od_mul de_int (dv 5))) de_int))) (de_slice (dv 4) (do_some (de_op od_add (dv 6) de_int)) do_none)); exact fun _ => rfl)))))))
abbrev s_law_makes : Stmt := top 13
abbrev N_law_makes : List Str := ["_law_bag_here", "_law_names_here", "_law_shelves", "_law_found", "_law_left", "_law_part", "_law_hears", "_law_rows", "_law_key", "_law_mine", "_law_shelf", "_law_bodies"]
abbrev P_law_makes : List Str := ["_law_bag_here", "_law_names_here", "_law_shelves"]
theorem sc_law_makes : FnScope N_law_makes P_law_makes (defScope s_law_makes) := ⟨rfl, rfl, rfl, by decide +kernel, rfl, by decide +kernel, by decide +kernel⟩
@[reducible] def t_law_makes_b0 : RS :=
  (dIfS (dTb (d2 rGtI (dCall sp_law_take [] (dCons (dVar 0) (dCons (dC (.int 4)) dNil))) (dC (.int 0)))) (dSeq (dSet 6 (d2 rMulD (dLst (dCons (dTup (dCons (dC (.str "on")) (dCons (dC (.str "ee")) (dCons (dCall sp_law_take [] (dCons (dVar 0) (dCons (dC (.int 10)) dNil))) dNil)))) dNil)) (dCB rIntC (dCons (d2 rEqD (dCall sp_law_take [] (dCons (dVar 0) (dCons (dC (.int 3)) dNil))) (dC (.int 0))) dNil))))
  (dSeq (dSet 7 (d2 rAddD (dVar 6) (dLc (diLst (dVar 1)) (dgName 8) (dTb (d2 rGtI (dCall sp_law_take [] (dCons (dVar 0) (dCons (dC (.int 3)) dNil))) (dC (.int 0)))) (dCall sp_law_row [] (dCons (dVar 0) (dCons (dC (.str "key")) (dCons (dVar 8) dNil)))) [8])))
  (dSeq (dSet 9 (dLc (diLst (dVar 4)) (dgName 10) (dTb (d2 rEqD (dCall sp_law_take [] (dCons (dVar 0) (dCons (dC (.int 3)) dNil))) (dC (.int 0)))) (dVar 10) [10]))
  (dSeq (dSet 4 (dLc (diLst (dVar 4)) (dgName 10) (dTb (d2 (rInD true) (dVar 10) (dVar 9))) (dVar 10) [10]))
  (dSeq (dSet 7 (d2 rAddD (dVar 7) (dLc (diLst (dVar 9)) (dgName 10) dYes (dCall sp_law_row [] (dCons (dVar 0) (dCons (dC (.str "own")) (dCons (dVar 10) dNil)))) [10])))
  (dSeq (dSet 11 (d2 rMulD (dTup (dCons (dTup (dCons (dC (.str "steps")) (dCons (dTup dNil) dNil))) dNil)) (dCB rLenD (dCons (dVar 6) dNil))))
  (dPut (dVar 3) (dVar 5) (dTup (dCons (dC (.str "make")) (dCons (dVar 5) (dCons (dTup (dCons (dCall sp_law_take [] (dCons (dVar 0) (dCons (dC (.int 2)) dNil))) (dCons (dCall sp_law_take [] (dCons (dVar 0) (dCons (dC (.int 2)) dNil))) dNil))) (dCons (dCB rTupleC (dCons (dVar 7) dNil)) (dCons (dVar 11) dNil))))))))))))) dNext)
@[reducible] def t_law_makes_s0 : RS :=
  (dSet 3 dDctO)
@[reducible] def t_law_makes_s1 : RS :=
  (dSet 4 (dCB rListC (dCons (dVar 2) dNil)))
@[reducible] def t_law_makes_s2 : RS :=
  (dFor (diLst (dLst (dCons (dC (.str "a")) (dCons (dC (.str "b")) (dCons (dC (.str "c")) (dCons (dC (.str "d")) dNil)))))) (dgName 5)
  t_law_makes_b0)
@[reducible] def t_law_makes_s3 : RS :=
  (dRet (dVar 3))
def t_law_makes : RS :=
  dSeq t_law_makes_s0 (dSeq t_law_makes_s1 (dSeq t_law_makes_s2 (t_law_makes_s3)))
theorem dv_law_makes {cdv : Value} {A : Around} {outer : List Env} {s : Shared} {H : Hp} {E : XK} {f : Addr} {B : Bs} (bi : BI mg) (c_law_row : Callee P w K mg base 2 "_law_row" P_law_row sp_law_row) (c_law_take : Callee P w K mg base 1 "_law_take" P_law_take sp_law_take) (hr : Room 2 (A.deeper (envOfC "_law_makes" (defScope s_law_makes) s.heap.objs.size f cdv))) :
    JSs (cxOf CX0 P w K mg base N_law_makes "_law_makes" (defScope s_law_makes) f cdv A outer s H E).nox B (defBody s_law_makes) t_law_makes := by
  have hu := hu_of hr
  have hw := hw_of hr
  have nd := sc_law_makes.nd
  exact (dss_cons (ds_set (i := 3) nd rfl (by first | exact Or.inl rfl | exact Or.inr rfl) de_dctO)
  (dss_cons (ds_set (i := 4) nd rfl (by first | exact Or.inl rfl | exact Or.inr rfl) (de_callTy cd_list rfl bi.list_ boot_list_ (da_cons (dv 2) da_nil)))
  (dss_cons (ds_for (vs := [5]) .never rfl (di_lst (de_lst (da_cons de_str (da_cons de_str (da_cons de_str (da_cons de_str da_nil)))))) (dg_name (i := 5) (by decide) nd rfl (by first | exact Or.inl rfl | exact Or.inr rfl))
  (dss_one (ds_if (dt_cmp od_gt (de_fn c_law_take (hr.mono (by first | decide | exact Nat.le_refl _)) (da_cons (dv 0) (da_cons de_int da_nil))) de_int (by first | exact nomark _ | rfl)) (dss_cons (ds_set (i := 6) nd rfl (by first | exact Or.inl rfl | exact Or.inr rfl) (de_op od_mul (de_lst (da_cons (de_tup (da_cons de_str (da_cons de_str (da_cons (de_fn c_law_take (hr.mono (by first | decide | exact Nat.le_refl _)) (da_cons (dv 0) (da_cons de_int da_nil))) da_nil)))) da_nil)) (de_callTy cd_int rfl bi.int_ boot_int_ (da_cons (de_cmp (od_eq hw) (de_fn c_law_take (hr.mono (by first | decide | exact Nat.le_refl _)) (da_cons (dv 0) (da_cons de_int da_nil))) de_int (by first | exact nomark _ | rfl)) da_nil))))
  (dss_cons (ds_set (i := 7) nd rfl (by first | exact Or.inl rfl | exact Or.inr rfl) (de_op od_add (dv 6) (by refine de_lc (own := [("_law_key", 8)]) ?_ ?_ ?_ ?_ ?_ ?_ ?_ ?_; exact rfl; exact nd; exact (di_lst (dv 1)); exact blkOk_by (N := N_law_makes) (sc := defScope s_law_makes) (by decide +kernel); exact fun _ _ _ _ _ _ => (dg_name (i := 8) (by decide) nd rfl (by first | exact Or.inl rfl | exact Or.inr rfl)); exact fun _ _ _ _ _ _ => (dts_one (dt_cmp od_gt (de_fn c_law_take (hr.mono (by first | decide | exact Nat.le_refl _)) (da_cons (dv 0) (da_cons de_int da_nil))) de_int (by first | exact nomark _ | rfl))); exact fun _ _ _ _ _ _ => (de_fn c_law_row (hr.mono (by first | decide | exact Nat.le_refl _)) (da_cons (dv 0) (da_cons de_str (da_cons (dv 8) da_nil)))); exact fun _ => rfl)))
  (dss_cons (ds_set (i := 9) nd rfl (by first | exact Or.inl rfl | exact Or.inr rfl) (by refine de_lc (own := [("_law_shelf", 10)]) ?_ ?_ ?_ ?_ ?_ ?_ ?_ ?_; exact rfl; exact nd; exact (di_lst (dv 4)); exact blkOk_by (N := N_law_makes) (sc := defScope s_law_makes) (by decide +kernel); exact fun _ _ _ _ _ _ => (dg_name (i := 10) (by decide) nd rfl (by first | exact Or.inl rfl | exact Or.inr rfl)); exact fun _ _ _ _ _ _ => (dts_one (dt_cmp (od_eq hw) (de_fn c_law_take (hr.mono (by first | decide | exact Nat.le_refl _)) (da_cons (dv 0) (da_cons de_int da_nil))) de_int (by first | exact nomark _ | rfl))); exact fun _ _ _ _ _ _ => (dv 10); exact fun _ => rfl))
  (dss_cons (by refine ds_setLc (own := [("_law_shelf", 10)]) (i := 4) ?_ ?_ ?_ ?_ ?_ ?_ ?_ ?_ ?_ ?_ ?_; exact rfl; exact nd; exact rfl; exact rfl; exact sw_true rfl rfl rfl (by decide +kernel); exact (di_lst (dv 4)); exact blkOk_by (N := N_law_makes) (sc := defScope s_law_makes) (by decide +kernel); exact fun _ _ _ _ _ _ => (dg_name (i := 10) (by decide) nd rfl (by first | exact Or.inl rfl | exact Or.inr rfl)); exact fun _ _ _ _ _ _ => (dts_one (dt_cmp (od_notIn hu) (dv 10) (dv 9) (by first | exact nomark _ | rfl))); exact fun _ _ _ _ _ _ => (dv 10); exact fun _ => rfl)
  (dss_cons (ds_set (i := 7) nd rfl (by first | exact Or.inl rfl | exact Or.inr rfl) (de_op od_add (dv 7) (by refine de_lc (own := [("_law_shelf", 10)]) ?_ ?_ ?_ ?_ ?_ ?_ ?_ ?_; exact rfl; exact nd; exact (di_lst (dv 9)); exact blkOk_by (N := N_law_makes) (sc := defScope s_law_makes) (by decide +kernel); exact fun _ _ _ _ _ _ => (dg_name (i := 10) (by decide) nd rfl (by first | exact Or.inl rfl | exact Or.inr rfl)); exact fun _ _ _ _ _ _ => dts_nil; exact fun _ _ _ _ _ _ => (de_fn c_law_row (hr.mono (by first | decide | exact Nat.le_refl _)) (da_cons (dv 0) (da_cons de_str (da_cons (dv 10) da_nil)))); exact fun _ => rfl)))
  (dss_cons (ds_set (i := 11) nd rfl (by first | exact Or.inl rfl | exact Or.inr rfl) (de_op od_mul (de_tup (da_cons (de_tup (da_cons de_str (da_cons (de_tup da_nil) da_nil))) da_nil)) (de_callB cd_len rfl bi.len boot_len_ (da_cons (dv 6) da_nil))))
  (dss_one (ds_put hu (dv 3) (dv 5) (de_tup (da_cons de_str (da_cons (dv 5) (da_cons (de_tup (da_cons (de_fn c_law_take (hr.mono (by first | decide | exact Nat.le_refl _)) (da_cons (dv 0) (da_cons de_int da_nil))) (da_cons (de_fn c_law_take (hr.mono (by first | decide | exact Nat.le_refl _)) (da_cons (dv 0) (da_cons de_int da_nil))) da_nil))) (da_cons (de_callTy cd_tuple rfl bi.tuple_ boot_tuple_ (da_cons (dv 7) da_nil)) (da_cons (dv 11) da_nil)))))))))))))) dss_nil)) (fun _ => rfl))
  (dss_one (ds_ret (dv 3))))))
abbrev s_law_numbers : Stmt := top 14
abbrev N_law_numbers : List Str := ["_law_bag_here", "_law_makes_here", "_law_keys", "_law_shelves", "_law_part", "_law_row_here", "_law_number"]
abbrev P_law_numbers : List Str := ["_law_bag_here", "_law_makes_here"]
theorem sc_law_numbers : FnScope N_law_numbers P_law_numbers (defScope s_law_numbers) := ⟨rfl, rfl, rfl, by decide +kernel, rfl, by decide +kernel, by decide +kernel⟩
@[reducible] def t_law_numbers_b0 : RS :=
  (dSeq (dSet 6 (d2 rIxD (dLst (dCons (d2 rIxD (dVar 5) (dC (.int 2))) (dCons (d2 rIxD (dVar 5) (dC (.int 3))) (dCons (d2 rIxD (dVar 5) (dC (.int 4))) (dCons (d2 rAddD (d2 rIxD (dVar 5) (dC (.int 2))) (dCall sp_law_take [] (dCons (dVar 0) (dCons (d2 rAddD (d2 rSubD (d2 rIxD (dVar 5) (dC (.int 3))) (d2 rIxD (dVar 5) (dC (.int 2)))) (dC (.int 1))) dNil)))) dNil))))) (dCall sp_law_take [] (dCons (dVar 0) (dCons (dC (.int 4)) dNil)))))
  (dIfS (dTb (d2 rEqD (d2 rIxD (dVar 5) (dC (.int 0))) (dC (.str "key")))) (dPut (dVar 2) (dTup (dCons (dVar 4) (dCons (d2 rIxD (dVar 5) (dC (.int 1))) dNil))) (dVar 6)) (dPut (dVar 3) (d2 rIxD (dVar 5) (dC (.int 1))) (dVar 6))))
@[reducible] def t_law_numbers_b1 : RS :=
  (dFor (diLst (dLc (diTup (d2 rIxD (d2 rIxD (dVar 1) (dVar 4)) (dC (.int 3)))) (dgName 5) (dTb (d2 rNeD (d2 rIxD (dVar 5) (dC (.int 0))) (dC (.str "on")))) (dVar 5) [5])) (dgName 5)
  t_law_numbers_b0)
@[reducible] def t_law_numbers_s0 : RS :=
  (dPar 2 3 (dCons dDctO (dCons dDctO dNil)))
@[reducible] def t_law_numbers_s1 : RS :=
  (dFor (diKeys (dVar 1)) (dgName 4)
  t_law_numbers_b1)
@[reducible] def t_law_numbers_s2 : RS :=
  (dRet (dTup (dCons (dVar 2) (dCons (dVar 3) dNil))))
def t_law_numbers : RS :=
  dSeq t_law_numbers_s0 (dSeq t_law_numbers_s1 (t_law_numbers_s2))
theorem dv_law_numbers {cdv : Value} {A : Around} {outer : List Env} {s : Shared} {H : Hp} {E : XK} {f : Addr} {B : Bs} (bi : BI mg) (c_law_take : Callee P w K mg base 1 "_law_take" P_law_take sp_law_take) (hr : Room 1 (A.deeper (envOfC "_law_numbers" (defScope s_law_numbers) s.heap.objs.size f cdv))) :
    JSs (cxOf CX0 P w K mg base N_law_numbers "_law_numbers" (defScope s_law_numbers) f cdv A outer s H E).nox B (defBody s_law_numbers) t_law_numbers := by
  have hu := hu_of hr
  have hw := hw_of hr
  have nd := sc_law_numbers.nd
  exact (dss_cons (ds_par (i := 2) (j := 3) rfl nd rfl rfl (by decide) rfl rfl (da_cons de_dctO (da_cons de_dctO da_nil)) rfl)
  (dss_cons (ds_for (vs := [4]) .never rfl (di_keys (dv 1)) (dg_name (i := 4) (by decide) nd rfl (by first | exact Or.inl rfl | exact Or.inr rfl))
  (dss_one (ds_for (vs := [5]) .never rfl (di_lst (by refine de_lc (own := [("_law_row_here", 5)]) ?_ ?_ ?_ ?_ ?_ ?_ ?_ ?_; exact rfl; exact nd; exact (di_tup (de_ix hu (de_ix hu (dv 1) (dv 4)) de_int)); exact blkOk_by (N := N_law_numbers) (sc := defScope s_law_numbers) (by decide +kernel); exact fun _ _ _ _ _ _ => (dg_name (i := 5) (by decide) nd rfl (by first | exact Or.inl rfl | exact Or.inr rfl)); exact fun _ _ _ _ _ _ => (dts_one (dt_cmp (od_ne hw) (de_ix hu (dv 5) de_int) de_str (by first | exact nomark _ | rfl))); exact fun _ _ _ _ _ _ => (dv 5); exact fun _ => rfl)) (dg_name (i := 5) (by decide) nd rfl (by first | exact Or.inl rfl | exact Or.inr rfl))
  (dss_cons (ds_set (i := 6) nd rfl (by first | exact Or.inl rfl | exact Or.inr rfl) (de_ix hu (de_lst (da_cons (de_ix hu (dv 5) de_int) (da_cons (de_ix hu (dv 5) de_int) (da_cons (de_ix hu (dv 5) de_int) (da_cons (de_op od_add (de_ix hu (dv 5) de_int) (de_fn c_law_take (hr.mono (by first | decide | exact Nat.le_refl _)) (da_cons (dv 0) (da_cons (de_op od_add (de_op od_sub (de_ix hu (dv 5) de_int) (de_ix hu (dv 5) de_int)) de_int) da_nil)))) da_nil))))) (de_fn c_law_take (hr.mono (by first | decide | exact Nat.le_refl _)) (da_cons (dv 0) (da_cons de_int da_nil)))))
  (dss_one (ds_if (dt_cmp (od_eq hw) (de_ix hu (dv 5) de_int) de_str (by first | exact nomark _ | rfl)) (dss_one (ds_put hu (dv 2) (de_tup (da_cons (dv 4) (da_cons (de_ix hu (dv 5) de_int) da_nil))) (dv 6))) (dss_one (ds_put hu (dv 3) (de_ix hu (dv 5) de_int) (dv 6)))))) (fun _ => rfl))) (fun _ => rfl))
  (dss_one (ds_ret (de_tup (da_cons (dv 2) (da_cons (dv 3) da_nil)))))))
abbrev s_law_due : Stmt := top 15
abbrev N_law_due : List Str := ["_law_keys", "_law_shelves", "_law_elder", "_law_newer", "_law_found", "_law_part", "_law_row_here", "_law_stays", "_law_spot"]
abbrev P_law_due : List Str := ["_law_keys", "_law_shelves", "_law_elder", "_law_newer"]
theorem sc_law_due : FnScope N_law_due P_law_due (defScope s_law_due) := ⟨rfl, rfl, rfl, by decide +kernel, rfl, by decide +kernel, by decide +kernel⟩
@[reducible] def t_law_due_b0 : RS :=
  (dSeq (dIfS (dTb (d2 rEqD (d2 rIxD (dVar 6) (dC (.int 0))) (dC (.str "own")))) (dSeq (dSet 7 (dAndV (d2 (rInD false) (d2 rIxD (dVar 6) (dC (.int 1))) (dVar 1)) (dChain rLeI rLeI (d2 rIxD (dVar 6) (dC (.int 2))) (d2 rIxD (dVar 1) (d2 rIxD (dVar 6) (dC (.int 1)))) (d2 rIxD (dVar 6) (dC (.int 3))))))
  (dPut (d2 rIxD (dVar 4) (dC (.int 1))) (d2 rIxD (dVar 6) (dC (.int 1))) (d2 rIxD (dLst (dCons (d2 rIxD (dVar 6) (dC (.int 4))) (dCons (dBM "dict" rGet2 (dVar 1) (dCons (d2 rIxD (dVar 6) (dC (.int 1))) (dCons (dC (.int 0)) dNil))) dNil))) (dCB rIntC (dCons (dVar 7) dNil))))) dNext)
  (dIfS (dTb (d2 rEqD (d2 rIxD (dVar 6) (dC (.int 0))) (dC (.str "key")))) (dSeq (dSet 8 (dTup (dCons (dVar 5) (dCons (d2 rIxD (dVar 6) (dC (.int 1))) dNil))))
  (dSeq (dSet 7 (dAndV (d2 (rInD false) (dVar 8) (dVar 0)) (dAndV (d2 rEqD (d2 rIxD (dVar 6) (dC (.int 5))) (dC (.str "kept"))) (dChain rLeI rLeI (d2 rIxD (dVar 6) (dC (.int 2))) (d2 rIxD (dVar 0) (dVar 8)) (d2 rIxD (dVar 6) (dC (.int 3)))))))
  (dSeq (dSet 7 (dOrV (dVar 7) (d2 rEqD (dBM "dict" rGet1 (dVar 2) (dCons (dVar 5) dNil)) (d2 rIxD (dVar 3) (dVar 5)))))
  (dPut (d2 rIxD (dVar 4) (dC (.int 0))) (dVar 8) (d2 rIxD (dLst (dCons (d2 rIxD (dVar 6) (dC (.int 4))) (dCons (dBM "dict" rGet2 (dVar 0) (dCons (dVar 8) (dCons (dC (.int 0)) dNil))) dNil))) (dCB rIntC (dCons (dVar 7) dNil))))))) dNext))
@[reducible] def t_law_due_b1 : RS :=
  (dFor (diTup (d2 rIxD (d2 rIxD (dVar 3) (dVar 5)) (dC (.int 3)))) (dgName 6)
  t_law_due_b0)
@[reducible] def t_law_due_s0 : RS :=
  (dSet 4 (dTup (dCons dDctO (dCons dDctO dNil))))
@[reducible] def t_law_due_s1 : RS :=
  (dFor (diKeys (dVar 3)) (dgName 5)
  t_law_due_b1)
@[reducible] def t_law_due_s2 : RS :=
  (dRet (dVar 4))
def t_law_due : RS :=
  dSeq t_law_due_s0 (dSeq t_law_due_s1 (t_law_due_s2))
theorem dv_law_due {cdv : Value} {A : Around} {outer : List Env} {s : Shared} {H : Hp} {E : XK} {f : Addr} {B : Bs} (bi : BI mg)  (hr : Room 0 (A.deeper (envOfC "_law_due" (defScope s_law_due) s.heap.objs.size f cdv))) :
    JSs (cxOf CX0 P w K mg base N_law_due "_law_due" (defScope s_law_due) f cdv A outer s H E).nox B (defBody s_law_due) t_law_due := by
  have hu := hu_of hr
  have hw := hw_of hr
  have nd := sc_law_due.nd
  exact (dss_cons (ds_set (i := 4) nd rfl (by first | exact Or.inl rfl | exact Or.inr rfl) (de_tup (da_cons de_dctO (da_cons de_dctO da_nil))))
  (dss_cons (ds_for (vs := [5]) .never rfl (di_keys (dv 3)) (dg_name (i := 5) (by decide) nd rfl (by first | exact Or.inl rfl | exact Or.inr rfl))
  (dss_one (ds_for (vs := [6]) .never rfl (di_tup (de_ix hu (de_ix hu (dv 3) (dv 5)) de_int)) (dg_name (i := 6) (by decide) nd rfl (by first | exact Or.inl rfl | exact Or.inr rfl))
  (dss_cons (ds_if (dt_cmp (od_eq hw) (de_ix hu (dv 6) de_int) de_str (by first | exact nomark _ | rfl)) (dss_cons (ds_set (i := 7) nd rfl (by first | exact Or.inl rfl | exact Or.inr rfl) (de_and (de_cmp (od_in hu) (de_ix hu (dv 6) de_int) (dv 1) (by first | exact nomark _ | rfl)) (de_one (de_chain od_le od_le (de_ix hu (dv 6) de_int) (de_ix hu (dv 1) (de_ix hu (dv 6) de_int)) (de_ix hu (dv 6) de_int)))))
  (dss_one (ds_put hu (de_ix hu (dv 4) de_int) (de_ix hu (dv 6) de_int) (de_ix hu (de_lst (da_cons (de_ix hu (dv 6) de_int) (da_cons (de_bm PySem.F.plainAttrs_dict PySem.F.slot_dict_get PySem.F.type_dict_get (md_get2 hu) (dv 1) (da_cons (de_ix hu (dv 6) de_int) (da_cons de_int da_nil))) da_nil))) (de_callTy cd_int rfl bi.int_ boot_int_ (da_cons (dv 7) da_nil)))))) dss_nil)
  (dss_one (ds_if (dt_cmp (od_eq hw) (de_ix hu (dv 6) de_int) de_str (by first | exact nomark _ | rfl)) (dss_cons (ds_set (i := 8) nd rfl (by first | exact Or.inl rfl | exact Or.inr rfl) (de_tup (da_cons (dv 5) (da_cons (de_ix hu (dv 6) de_int) da_nil))))
  (dss_cons (ds_set (i := 7) nd rfl (by first | exact Or.inl rfl | exact Or.inr rfl) (de_and (de_cmp (od_in hu) (dv 8) (dv 0) (by first | exact nomark _ | rfl)) (de_and (de_cmp (od_eq hw) (de_ix hu (dv 6) de_int) de_str (by first | exact nomark _ | rfl)) (de_one (de_chain od_le od_le (de_ix hu (dv 6) de_int) (de_ix hu (dv 0) (dv 8)) (de_ix hu (dv 6) de_int))))))
  (dss_cons (ds_set (i := 7) nd rfl (by first | exact Or.inl rfl | exact Or.inr rfl) (de_or (dv 7) (de_one (de_cmp (od_eq hw) (de_bm PySem.F.plainAttrs_dict PySem.F.slot_dict_get PySem.F.type_dict_get (md_get1 hu) (dv 2) (da_cons (dv 5) da_nil)) (de_ix hu (dv 3) (dv 5)) (by first | exact nomark _ | rfl)))))
  (dss_one (ds_put hu (de_ix hu (dv 4) de_int) (dv 8) (de_ix hu (de_lst (da_cons (de_ix hu (dv 6) de_int) (da_cons (de_bm PySem.F.plainAttrs_dict PySem.F.slot_dict_get PySem.F.type_dict_get (md_get2 hu) (dv 0) (da_cons (dv 8) (da_cons de_int da_nil))) da_nil))) (de_callTy cd_int rfl bi.int_ boot_int_ (da_cons (dv 7) da_nil)))))))) dss_nil))) (fun _ => rfl))) (fun _ => rfl))
  (dss_one (ds_ret (dv 4)))))
abbrev slaw : Stmt := top 16
abbrev Nlaw : List Str := ["_law_script", "_law_bag_here", "_law_names_here", "_law_owned", "_law_elder", "_law_turn", "_law_newer", "_law_taken", "_law_part", "_law_rows", "_law_row_here", "_law_keys", "_law_shelves", "_law_turned", "_law_handed", "_law_kept", "_law_due_here", "_law_again", "_law_told"]
abbrev Plaw : List Str := ["_law_script"]
theorem sclaw : FnScope Nlaw Plaw (defScope slaw) := ⟨rfl, rfl, rfl, by decide +kernel, rfl, by decide +kernel, by decide +kernel⟩
@[reducible] def tlaw_b0 : RS :=
  (dIfS (dAnd (dTb (d2 (rInD false) (dVar 8) (dVar 6))) (dTb (d2 rEqD (dCall sp_law_take [] (dCons (dVar 1) (dCons (dC (.int 2)) dNil))) (dC (.int 0))))) (dPut (dVar 6) (dVar 8) (d2 rIxD (dVar 4) (dVar 8))) dNext)
@[reducible] def tlaw_b1 : RS :=
  (dSeq (dSet 9 (dLc (diTup (d2 rIxD (d2 rIxD (dVar 6) (dVar 8)) (dC (.int 3)))) (dgName 10) (dOr (dTb (d2 rNeD (d2 rIxD (dVar 10) (dC (.int 0))) (dC (.str "own")))) (dTb (d2 (rInD true) (d2 rIxD (dVar 10) (dC (.int 1))) (dVar 7)))) (dVar 10) [10]))
  (dSeq (dSet 7 (d2 rAddD (dVar 7) (dLc (diLst (dVar 9)) (dgName 10) (dTb (d2 rEqD (d2 rIxD (dVar 10) (dC (.int 0))) (dC (.str "own")))) (d2 rIxD (dVar 10) (dC (.int 1))) [10])))
  (dIfS (dTb (d2 rLtI (dCB rLenD (dCons (dVar 9) dNil)) (dCB rLenD (dCons (d2 rIxD (d2 rIxD (dVar 6) (dVar 8)) (dC (.int 3))) dNil)))) (dPut (dVar 6) (dVar 8) (d2 rAddD (dSl (d2 rIxD (dVar 6) (dVar 8)) dNoPart (dPart (dC (.int 3)))) (dTup (dCons (dCB rTupleC (dCons (dVar 9) dNil)) (dCons (d2 rIxD (d2 rIxD (dVar 6) (dVar 8)) (dC (.int 4))) dNil))))) dNext)))
@[reducible] def tlaw_b2 : RS :=
  (dSeq (dSet 18 (dCall spgone_over [] (dCons (d2 rIxD (dVar 14) (dC (.int 0))) (dCons (d2 rIxD (dVar 14) (dC (.int 1))) (dCons (d2 rIxD (dVar 14) (dC (.int 2))) (dCons (d2 rIxD (dVar 14) (dC (.int 3))) dNil))))))
  (dSeq (dIfS (dOr (dNot (dTb (dCB rIsInst (dCons (dVar 18) (dCons (dC (.ty "tuple")) dNil))))) (dOr (dTb (d2 rNeD (dVar 18) (dVar 16))) (dTb (d2 rNeD (dVar 14) (dVar 15))))) (dRet (dC (.bl false))) dNext)
  (dSeq (dPut (d2 rIxD (dVar 18) (dC (.int 0))) (dTup (dCons (dC (.str "a")) (dCons (dC (.str "zz")) dNil))) (dC (.int 5)))
  (dPut (d2 rIxD (dVar 18) (dC (.int 1))) (dC (.str "zz")) (dC (.int 5))))))
@[reducible] def tlaw_b3 : RS :=
  (dSeq (dSet 6 (dCall sp_law_makes [] (dCons (dVar 1) (dCons (dVar 2) (dCons (dVar 3) dNil)))))
  (dSeq (dSet 7 (dLst dNil))
  (dSeq (dFor (diLst (dCB rSortedD (dCons (dVar 4) dNil))) (dgName 8)
  tlaw_b0)
  (dSeq (dFor (diLst (dCB rSortedD (dCons (dVar 6) dNil))) (dgName 8)
  tlaw_b1)
  (dSeq (dAsg (dCall sp_law_numbers [] (dCons (dVar 1) (dCons (dVar 4) dNil))) (dgTup 2 (dgCons (dgName 11) (dgCons (dgName 12) dgNil))))
  (dSeq (dSet 13 (d2 rIxD (dLst (dCons (dC (.int 1)) (dCons (d1 rNegD (dC (.int 1))) dNil))) (dCall sp_law_take [] (dCons (dVar 1) (dCons (dC (.int 2)) dNil)))))
  (dSeq (dSet 14 (dLst (dCons (dCB rDictC (dCons (dStep (dSortIt (dVar 11)) (dVar 13)) dNil)) (dCons (dCB rDictC (dCons (dStep (dSortIt (dVar 12)) (dVar 13)) dNil)) dNil))))
  (dSeq (dSet 14 (d2 rCatO (dVar 14) (dLst (dCons (dLc (diKeys (dVar 4)) (dgName 8) dYes (d2 rIxD (dVar 4) (dVar 8)) [8]) (dCons (dLc (diLst (dCB rSortedD (dCons (dVar 6) dNil))) (dgName 8) dYes (d2 rIxD (dVar 6) (dVar 8)) [8]) dNil)))))
  (dSeq (dIfS (dTb (d2 rEqD (dCall sp_law_take [] (dCons (dVar 1) (dCons (dC (.int 2)) dNil))) (dC (.int 0)))) (dPut (dVar 14) (dC (.int 3)) (dStep (d2 rIxD (dVar 14) (dC (.int 3))) (d1 rNegD (dC (.int 1))))) dNext)
  (dSeq (dPar 15 16 (dCons (dCall (sp_law_copy 8) [] (dCons (dVar 14) dNil)) (dCons (dCall sp_law_due [] (dCons (dVar 11) (dCons (dVar 12) (dCons (dVar 4) (dCons (dVar 6) dNil))))) dNil)))
  (dSeq (dFor (diRng1 (dCons (dC (.int 2)) dNil)) (dgName 17)
  tlaw_b2)
  (dSet 4 (dVar 6)))))))))))))
@[reducible] def tlaw_s0 : RS :=
  (dSet 1 (dCall sp_law_bag [] (dCons (dVar 0) dNil)))
@[reducible] def tlaw_s1 : RS :=
  (dSet 2 (dCall sp_law_names [] (dCons (dVar 1) (dCons (dC (.int 16)) dNil))))
@[reducible] def tlaw_s2 : RS :=
  (dSet 3 (dCB rSortedD (dCons (dLst (dCons (d2 rIxD (dVar 2) (dC (.int 0))) (dCons (d2 rIxD (dVar 2) (dC (.int 14))) (dCons (d2 rIxD (dVar 2) (dC (.int 15))) dNil)))) dNil)))
@[reducible] def tlaw_s3 : RS :=
  (dSet 2 (dCB rSortedD (dCons (dSl (dVar 2) dNoPart (dPart (d2 rIxD (dLst (dCons (dC (.int 3)) (dCons (dC (.int 3)) (dCons (dC (.int 12)) dNil)))) (dCall sp_law_take [] (dCons (dVar 1) (dCons (dC (.int 3)) dNil)))))) dNil)))
@[reducible] def tlaw_s4 : RS :=
  (dSet 4 (dCall sp_law_makes [] (dCons (dVar 1) (dCons (dVar 2) (dCons (dVar 3) dNil)))))
@[reducible] def tlaw_s5 : RS :=
  (dFor (diRng1 (dCons (d2 rAddD (dC (.int 1)) (dCall sp_law_take [] (dCons (dVar 1) (dCons (dC (.int 4)) dNil)))) dNil)) (dgName 5)
  tlaw_b3)
@[reducible] def tlaw_s6 : RS :=
  (dRet (dC (.bl true)))
def tlaw : RS :=
  dSeq tlaw_s0 (dSeq tlaw_s1 (dSeq tlaw_s2 (dSeq tlaw_s3 (dSeq tlaw_s4 (dSeq tlaw_s5 (tlaw_s6))))))
theorem dvlaw {cdv : Value} {A : Around} {outer : List Env} {s : Shared} {H : Hp} {E : XK} {f : Addr} {B : Bs} (bi : BI mg) (c_law_bag : Callee P w K mg base 1 "_law_bag" P_law_bag sp_law_bag) (c_law_copy : Callee P w K mg base 12 "_law_copy" P_law_copy (sp_law_copy 8)) (c_law_due : Callee P w K mg base 1 "_law_due" P_law_due sp_law_due) (c_law_makes : Callee P w K mg base 3 "_law_makes" P_law_makes sp_law_makes) (c_law_names : Callee P w K mg base 2 "_law_names" P_law_names sp_law_names) (c_law_numbers : Callee P w K mg base 2 "_law_numbers" P_law_numbers sp_law_numbers) (c_law_take : Callee P w K mg base 1 "_law_take" P_law_take sp_law_take) (cgone_over : Callee P w K mg base 4 "gone_over" Pgone_over spgone_over) (hr : Room 19 (A.deeper (envOfC "law" (defScope slaw) s.heap.objs.size f cdv))) :
    JSs (cxOf CX0 P w K mg base Nlaw "law" (defScope slaw) f cdv A outer s H E).nox B (defBody slaw) tlaw := by
  have hu := hu_of hr
  have hw := hw_of hr
  have nd := sclaw.nd
  exact (dss_cons (ds_set (i := 1) nd rfl (by first | exact Or.inl rfl | exact Or.inr rfl) (de_fn c_law_bag (hr.mono (by first | decide | exact Nat.le_refl _)) (da_cons (dv 0) da_nil)))
  (dss_cons (ds_set (i := 2) nd rfl (by first | exact Or.inl rfl | exact Or.inr rfl) (de_fn c_law_names (hr.mono (by first | decide | exact Nat.le_refl _)) (da_cons (dv 1) (da_cons de_int da_nil))))
  (dss_cons (ds_set (i := 3) nd rfl (by first | exact Or.inl rfl | exact Or.inr rfl) (de_callB (cd_sorted rfl hw) rfl bi.sorted boot_sorted_ (da_cons (de_lst (da_cons (de_ix hu (dv 2) de_int) (da_cons (de_ix hu (dv 2) de_int) (da_cons (de_ix hu (dv 2) de_int) da_nil)))) da_nil)))
  (dss_cons (ds_set (i := 2) nd rfl (by first | exact Or.inl rfl | exact Or.inr rfl) (de_callB (cd_sorted rfl hw) rfl bi.sorted boot_sorted_ (da_cons (de_slice (dv 2) do_none (do_some (de_ix hu (de_lst (da_cons de_int (da_cons de_int (da_cons de_int da_nil)))) (de_fn c_law_take (hr.mono (by first | decide | exact Nat.le_refl _)) (da_cons (dv 1) (da_cons de_int da_nil)))))) da_nil)))
  (dss_cons (ds_set (i := 4) nd rfl (by first | exact Or.inl rfl | exact Or.inr rfl) (de_fn c_law_makes (hr.mono (by first | decide | exact Nat.le_refl _)) (da_cons (dv 1) (da_cons (dv 2) (da_cons (dv 3) da_nil)))))
  (dss_cons (ds_for (vs := [5]) .never rfl (di_range1 rfl bi.range (da_cons (de_op od_add de_int (de_fn c_law_take (hr.mono (by first | decide | exact Nat.le_refl _)) (da_cons (dv 1) (da_cons de_int da_nil)))) da_nil)) (dg_name (i := 5) (by decide) nd rfl (by first | exact Or.inl rfl | exact Or.inr rfl))
  (dss_cons (ds_set (i := 6) nd rfl (by first | exact Or.inl rfl | exact Or.inr rfl) (de_fn c_law_makes (hr.mono (by first | decide | exact Nat.le_refl _)) (da_cons (dv 1) (da_cons (dv 2) (da_cons (dv 3) da_nil)))))
  (dss_cons (ds_set (i := 7) nd rfl (by first | exact Or.inl rfl | exact Or.inr rfl) (de_lst da_nil))
  (dss_cons (ds_for (vs := [8]) .never rfl (di_lst (de_callB (cd_sorted rfl hw) rfl bi.sorted boot_sorted_ (da_cons (dv 4) da_nil))) (dg_name (i := 8) (by decide) nd rfl (by first | exact Or.inl rfl | exact Or.inr rfl))
  (dss_one (ds_if (dt_w (dw_and (dt_cmp (od_in hu) (dv 8) (dv 6) (by first | exact nomark _ | rfl)) (dw_and1 (dt_cmp (od_eq hw) (de_fn c_law_take (hr.mono (by first | decide | exact Nat.le_refl _)) (da_cons (dv 1) (da_cons de_int da_nil))) de_int (by first | exact nomark _ | rfl))))) (dss_one (ds_put hu (dv 6) (dv 8) (de_ix hu (dv 4) (dv 8)))) dss_nil)) (fun _ => rfl))
  (dss_cons (ds_for (vs := [8]) .never rfl (di_lst (de_callB (cd_sorted rfl hw) rfl bi.sorted boot_sorted_ (da_cons (dv 6) da_nil))) (dg_name (i := 8) (by decide) nd rfl (by first | exact Or.inl rfl | exact Or.inr rfl))
  (dss_cons (by refine ds_setLc (own := [("_law_row_here", 10)]) (i := 9) ?_ ?_ ?_ ?_ ?_ ?_ ?_ ?_ ?_ ?_ ?_; exact rfl; exact nd; exact rfl; exact rfl; exact sw_true rfl rfl rfl (by decide +kernel); exact (di_tup (de_ix hu (de_ix hu (dv 6) (dv 8)) de_int)); exact blkOk_by (N := Nlaw) (sc := defScope slaw) (by decide +kernel); exact fun _ _ _ _ _ _ => (dg_name (i := 10) (by decide) nd rfl (by first | exact Or.inl rfl | exact Or.inr rfl)); exact fun _ _ _ _ _ _ => (dts_one (dt_w (dw_or (dt_cmp (od_ne hw) (de_ix hu (dv 10) de_int) de_str (by first | exact nomark _ | rfl)) (dw_or1 (dt_cmp (od_notIn hu) (de_ix hu (dv 10) de_int) (dv 7) (by first | exact nomark _ | rfl)))))); exact fun _ _ _ _ _ _ => (dv 10); exact fun _ => rfl)
  (dss_cons (ds_set (i := 7) nd rfl (by first | exact Or.inl rfl | exact Or.inr rfl) (de_op od_add (dv 7) (by refine de_lc (own := [("_law_row_here", 10)]) ?_ ?_ ?_ ?_ ?_ ?_ ?_ ?_; exact rfl; exact nd; exact (di_lst (dv 9)); exact blkOk_by (N := Nlaw) (sc := defScope slaw) (by decide +kernel); exact fun _ _ _ _ _ _ => (dg_name (i := 10) (by decide) nd rfl (by first | exact Or.inl rfl | exact Or.inr rfl)); exact fun _ _ _ _ _ _ => (dts_one (dt_cmp (od_eq hw) (de_ix hu (dv 10) de_int) de_str (by first | exact nomark _ | rfl))); exact fun _ _ _ _ _ _ => (de_ix hu (dv 10) de_int); exact fun _ => rfl)))
  (dss_one (ds_if (dt_cmp od_lt (de_callB cd_len rfl bi.len boot_len_ (da_cons (dv 9) da_nil)) (de_callB cd_len rfl bi.len boot_len_ (da_cons (de_ix hu (de_ix hu (dv 6) (dv 8)) de_int) da_nil)) (by first | exact nomark _ | rfl)) (dss_one (ds_put hu (dv 6) (dv 8) (de_op od_add (de_slice (de_ix hu (dv 6) (dv 8)) do_none (do_some de_int)) (de_tup (da_cons (de_callTy cd_tuple rfl bi.tuple_ boot_tuple_ (da_cons (dv 9) da_nil)) (da_cons (de_ix hu (de_ix hu (dv 6) (dv 8)) de_int) da_nil)))))) dss_nil)))) (fun _ => rfl))
  (dss_cons (ds_asg (vs := [11, 12]) (de_fn c_law_numbers (hr.mono (by first | decide | exact Nat.le_refl _)) (da_cons (dv 1) (da_cons (dv 4) da_nil))) (dg_tup rfl (dgs_cons (dg_name (i := 11) (by decide) nd rfl (by first | exact Or.inl rfl | exact Or.inr rfl)) (dgs_cons (dg_name (i := 12) (by decide) nd rfl (by first | exact Or.inl rfl | exact Or.inr rfl)) dgs_nil))))
  (dss_cons (ds_set (i := 13) nd rfl (by first | exact Or.inl rfl | exact Or.inr rfl) (de_ix hu (de_lst (da_cons de_int (da_cons (de_neg de_int) da_nil))) (de_fn c_law_take (hr.mono (by first | decide | exact Nat.le_refl _)) (da_cons (dv 1) (da_cons de_int da_nil)))))
  (dss_cons (ds_set (i := 14) nd rfl (by first | exact Or.inl rfl | exact Or.inr rfl) (de_lst (da_cons (de_callTy (cd_dict rfl hw) rfl bi.dict_ boot_dict_ (da_cons (de_step (de_sortIt rfl hw bi.sorted rfl boot_sorted_ (dv 11)) (dv 13)) da_nil)) (da_cons (de_callTy (cd_dict rfl hw) rfl bi.dict_ boot_dict_ (da_cons (de_step (de_sortIt rfl hw bi.sorted rfl boot_sorted_ (dv 12)) (dv 13)) da_nil)) da_nil))))
  (dss_cons (ds_set (i := 14) nd rfl (by first | exact Or.inl rfl | exact Or.inr rfl) (de_op od_catO (dv 14) (de_lst (da_cons (by refine de_lc (own := [("_law_part", 8)]) ?_ ?_ ?_ ?_ ?_ ?_ ?_ ?_; exact rfl; exact nd; exact (di_keys (dv 4)); exact blkOk_by (N := Nlaw) (sc := defScope slaw) (by decide +kernel); exact fun _ _ _ _ _ _ => (dg_name (i := 8) (by decide) nd rfl (by first | exact Or.inl rfl | exact Or.inr rfl)); exact fun _ _ _ _ _ _ => dts_nil; exact fun _ _ _ _ _ _ => (de_ix hu (dv 4) (dv 8)); exact fun _ => rfl) (da_cons (by refine de_lc (own := [("_law_part", 8)]) ?_ ?_ ?_ ?_ ?_ ?_ ?_ ?_; exact rfl; exact nd; exact (di_lst (de_callB (cd_sorted rfl hw) rfl bi.sorted boot_sorted_ (da_cons (dv 6) da_nil))); exact blkOk_by (N := Nlaw) (sc := defScope slaw) (by decide +kernel); exact fun _ _ _ _ _ _ => (dg_name (i := 8) (by decide) nd rfl (by first | exact Or.inl rfl | exact Or.inr rfl)); exact fun _ _ _ _ _ _ => dts_nil; exact fun _ _ _ _ _ _ => (de_ix hu (dv 6) (dv 8)); exact fun _ => rfl) da_nil)))))
  (dss_cons (ds_if (dt_cmp (od_eq hw) (de_fn c_law_take (hr.mono (by first | decide | exact Nat.le_refl _)) (da_cons (dv 1) (da_cons de_int da_nil))) de_int (by first | exact nomark _ | rfl)) (dss_one (ds_put hu (dv 14) de_int (de_step (de_ix hu (dv 14) de_int) (de_neg de_int)))) dss_nil)
  (dss_cons (ds_par (i := 15) (j := 16) rfl nd rfl rfl (by decide) rfl rfl (da_cons (de_fn c_law_copy (hr.mono (by first | decide | exact Nat.le_refl _)) (da_cons (dv 14) da_nil)) (da_cons (de_fn c_law_due (hr.mono (by first | decide | exact Nat.le_refl _)) (da_cons (dv 11) (da_cons (dv 12) (da_cons (dv 4) (da_cons (dv 6) da_nil))))) da_nil)) rfl)
  (dss_cons (ds_for (vs := [17]) .never rfl (di_range1 rfl bi.range (da_cons de_int da_nil)) (dg_name (i := 17) (by decide) nd rfl (by first | exact Or.inl rfl | exact Or.inr rfl))
  (dss_cons (ds_set (i := 18) nd rfl (by first | exact Or.inl rfl | exact Or.inr rfl) (de_fn cgone_over (hr.mono (by first | decide | exact Nat.le_refl _)) (da_cons (de_ix hu (dv 14) de_int) (da_cons (de_ix hu (dv 14) de_int) (da_cons (de_ix hu (dv 14) de_int) (da_cons (de_ix hu (dv 14) de_int) da_nil))))))
  (dss_cons (ds_if (dt_w (dw_or (dt_not (dt_val (de_callB cd_isinst rfl bi.isinstance boot_isinstance_ (da_cons (dv 18) (da_cons (de_type "tuple" rfl bi.tuple_ boot_tuple_) da_nil))))) (dw_or (dt_cmp (od_ne hw) (dv 18) (dv 16) (by first | exact nomark _ | rfl)) (dw_or1 (dt_cmp (od_ne hw) (dv 14) (dv 15) (by first | exact nomark _ | rfl)))))) (dss_one (ds_ret de_bl)) dss_nil)
  (dss_cons (ds_put hu (de_ix hu (dv 18) de_int) (de_tup (da_cons de_str (da_cons de_str da_nil))) de_int)
  (dss_one (ds_put hu (de_ix hu (dv 18) de_int) de_str de_int))))) (fun _ => rfl))
  (dss_one (ds_set (i := 4) nd rfl (by first | exact Or.inl rfl | exact Or.inr rfl) (dv 6)))))))))))))) (fun _ => rfl))
  (dss_one (ds_ret de_bl))))))))
end
end K83
namespace K83
open PySem PySem.Spec PyProof.Rows L2 DL
abbrev En (R : DVK) : DEnds := { nx := fun _ S' => R .non S', rt := R }
theorem size1000 : (1000 : Nat) < sizeLine := by decide
/-! ### rows -/
theorem word_ix (r : Row) : ∃ tl, r.d = .tup (.str r.word :: tl) := by cases r <;> exact ⟨_, rfl⟩
theorem ix_word {r : Row} {S : Own} {R : DVK} : rIxD r.d (.int 0) S R = R (.str r.word) S := by
  obtain ⟨tl, e⟩ := word_ix r
  rw [e]; simp only [DL.ix_tup, atI_0, Option.some.injEq, exists_eq_left']
theorem ix_make1 {m : Make} {S : Own} {R : DVK} : rIxD m.d (.int 1) S R = R (.str m.part) S := by
  unfold Make.d; simp only [DL.ix_tup, atI_1, Option.some.injEq, exists_eq_left']
theorem ix_make3 {m : Make} {S : Own} {R : DVK} : rIxD m.d (.int 3) S R = R (.tup (m.rows.map Row.d)) S := by
  unfold Make.d; simp only [DL.ix_tup, atI_3, Option.some.injEq, exists_eq_left']
theorem isNon_make {m : Make} : DL.isNon m.d = false := rfl
theorem sh_row (r : Row) : shD 1 r.d = true := by cases r <;> simp [Row.d, shD, shA, shL]
theorem sh_make (m : Make) : shD 40 m.d = true := by
  refine shD_mono (n := 5) ?_ (by decide)
  unfold Make.d
  simp only [shD, shA, shL, Bool.and_true, Bool.true_and, Bool.and_eq_true]
  refine ⟨shL_all fun d h => ?_, shL_all fun d h => ?_⟩
  · obtain ⟨r, _, rfl⟩ := List.mem_map.mp h; exact shD_mono (sh_row r) (by decide)
  · rw [List.eq_of_mem_replicate h]; simp [bodyD, shD, shA, shL]
theorem nb_row (r : Row) : nbD r.d = true := by cases r <;> rfl
theorem nb_make (m : Make) : nbD m.d = true := by
  unfold Make.d
  simp only [nbD, nbL, Bool.and_true, Bool.true_and, Bool.and_eq_true]
  refine ⟨nbL_all fun d h => ?_, nbL_all fun d h => ?_⟩
  · obtain ⟨r, _, rfl⟩ := List.mem_map.mp h; exact nb_row r
  · rw [List.eq_of_mem_replicate h]; rfl
theorem rd_rows_of {ds : List D} {S : Own} {R : DVK} {RX : DXK} (h : sprows_of ds S R RX) : trows_of (En R) (startD Nrows_of ds) S := by
  obtain ⟨m, w, rfl, hl, q⟩ := h
  simp only [trows_of, trows_of_s0, dLc, diTup, ix_make3, dSeq, dIfS, dTb, d2, d1, dVar, dC, dRet, dSet, dPut, dNext, dCB, dCons, dNil, dTup, dLst, dCall, dAnd, dOr, dNot, dAndV, dOrV, dNotV, dChain, dDrop, dIf, dgName, dgNil, dgCons, dgTup, dAsg, dPar, startD, wipeD, List.map_cons, List.map_nil, List.length_cons, List.length_nil, List.replicate, List.cons_append, List.nil_append, List.append_nil, List.getElem?_cons_zero, List.getElem?_cons_succ, Option.some.injEq, exists_eq_left', exists_eq_left, List.set_cons_zero, List.set_cons_succ, rEq_ii, rEq_ss, rNe_ss, rI1_ii, rI2_ii, DL.ix_lst, DL.ix_tup, atI_0, atI_1, atI_2, atI_3, atI_4, atI_5, some_ex, bl_ex, int_ex, len_lst, len_tup, mul_ii, add_ii, add_ll, add_tt, add_ss, decide_eq_true_eq, D.tup.injEq, D.lst.injEq, D.dct.injEq, D.str.injEq, D.int.injEq, D.bl.injEq, D.ref.injEq, Nat.zero_add, Nat.add_zero, Nat.sub_self, Nat.add_one_sub_one, Nat.reduceAdd, Nat.reduceSub, cons_ex, pair_ex, sz_0, sz_1, sz_2, sz_3, sz_4, sz_5, sz_6, sz_7, sz_8, true_and, eq_self]
  refine lcRun_map Row.d (fun r => if r.word = w then some r.d else none) (by have := size1000; omega) trivial (fun r _ K k => ?_) ?_
  · simp only [ix_word, dSeq, dIfS, dTb, d2, d1, dVar, dC, dRet, dSet, dPut, dNext, dCB, dCons, dNil, dTup, dLst, dCall, dAnd, dOr, dNot, dAndV, dOrV, dNotV, dChain, dDrop, dIf, dgName, dgNil, dgCons, dgTup, dAsg, dPar, startD, wipeD, List.map_cons, List.map_nil, List.length_cons, List.length_nil, List.replicate, List.cons_append, List.nil_append, List.append_nil, List.getElem?_cons_zero, List.getElem?_cons_succ, Option.some.injEq, exists_eq_left', exists_eq_left, List.set_cons_zero, List.set_cons_succ, rEq_ii, rEq_ss, rNe_ss, rI1_ii, rI2_ii, DL.ix_lst, DL.ix_tup, atI_0, atI_1, atI_2, atI_3, atI_4, atI_5, some_ex, bl_ex, int_ex, len_lst, len_tup, mul_ii, add_ii, add_ll, add_tt, add_ss, decide_eq_true_eq, D.tup.injEq, D.lst.injEq, D.dct.injEq, D.str.injEq, D.int.injEq, D.bl.injEq, D.ref.injEq, Nat.zero_add, Nat.add_zero, Nat.sub_self, Nat.add_one_sub_one, Nat.reduceAdd, Nat.reduceSub, cons_ex, pair_ex, sz_0, sz_1, sz_2, sz_3, sz_4, sz_5, sz_6, sz_7, sz_8, true_and, eq_self]
    by_cases hr : r.word = w
    · simpa only [if_pos hr] using k
    · simpa only [if_neg hr] using k
  · have : (m.rows.filterMap fun r => if r.word = w then some r.d else none) = (m.rows.filter fun r => decide (r.word = w)).map Row.d := by
      induction m.rows with
      | nil => rfl
      | cons r rs ih =>
        by_cases hr : r.word = w
        · simp [hr, ih]
        · simp [hr, ih]
    rw [this]; exact q
/-! ### the dicts -/
def spotOf (a b : Str) : D := .tup [.str a, .str b]
theorem eqv_str {x y : Str} : eqv (.str x) (.str y) = (x == y) := rfl
theorem eqv_spot {a b : Str} {s : Spot} : eqv (.tup [.str a, .str b]) (spotD s) = ((a, b) == s) := by
  obtain ⟨c, d⟩ := s
  show (a == c && (b == d && true)) = _
  rw [Bool.and_true]; rfl
theorem look_keys {a b : Str} : ∀ {ks : Keys}, lookD (keysD ks) (.tup [.str a, .str b]) = (ks.lookup (a, b)).map D.int
  | [] => rfl
  | (s, v) :: r => by
    have ih := look_keys (a := a) (b := b) (ks := r)
    unfold lookD keysD at ih ⊢
    rw [List.map_cons, List.find?_cons, List.lookup_cons]
    simp only [eqv_spot]
    cases ((a, b) == s) with
    | true => rfl
    | false => exact ih
theorem look_shelves {x : Str} : ∀ {ss : Shelves}, lookD (shelvesD ss) (.str x) = (ss.lookup x).map D.int
  | [] => rfl
  | (s, v) :: r => by
    have ih := look_shelves (x := x) (ss := r)
    unfold lookD shelvesD at ih ⊢
    rw [List.map_cons, List.find?_cons, List.lookup_cons]
    simp only [eqv_str]
    cases (x == s) with
    | true => rfl
    | false => exact ih
theorem kind_keys {ks : Keys} {a b : Str} : kindD (keysD ks) (.tup [.str a, .str b]) = true := by
  unfold kindD keysD
  rw [List.all_map, List.all_eq_true]
  intro p _; rfl
theorem kind_shelves {ss : Shelves} {x : Str} : kindD (shelvesD ss) (.str x) = true := by
  unfold kindD shelvesD
  rw [List.all_map, List.all_eq_true]
  intro p _; rfl
theorem in_keys {neg : Bool} {ks : Keys} {a b : Str} {S : Own} {R : DVK} : rInD neg (.tup [.str a, .str b]) (.dct (keysD ks)) S R = R (.bl (if neg = true then !(ks.lookup (a, b)).isSome else (ks.lookup (a, b)).isSome)) S := by
  unfold rInD
  simp only [look_keys, kind_keys, Option.isSome_map, true_and, show keyB (.tup [.str a, .str b]) = true from rfl]
theorem in_shelves {neg : Bool} {ss : Shelves} {x : Str} {S : Own} {R : DVK} : rInD neg (.str x) (.dct (shelvesD ss)) S R = R (.bl (if neg = true then !(ss.lookup x).isSome else (ss.lookup x).isSome)) S := by
  unfold rInD
  simp only [look_shelves, kind_shelves, Option.isSome_map, true_and, show keyB (.str x) = true from rfl]
theorem ix_keys {ks : Keys} {a b : Str} {S : Own} {R : DVK} : rIxD (.dct (keysD ks)) (.tup [.str a, .str b]) S R = ∃ v, ks.lookup (a, b) = some v ∧ R (.int v) S := by
  rw [ix_dic (es := keysD ks) rfl, look_keys]
  apply propext; constructor
  · rintro ⟨_, _, z, e, q⟩
    cases h : ks.lookup (a, b) with
    | none => rw [h] at e; cases e
    | some v => rw [h] at e; cases e; exact ⟨v, rfl, q⟩
  · rintro ⟨v, e, q⟩; exact ⟨rfl, kind_keys, _, by rw [e]; rfl, q⟩
theorem ix_shelves {ss : Shelves} {x : Str} {S : Own} {R : DVK} : rIxD (.dct (shelvesD ss)) (.str x) S R = ∃ v, ss.lookup x = some v ∧ R (.int v) S := by
  rw [ix_dic (es := shelvesD ss) rfl, look_shelves]
  apply propext; constructor
  · rintro ⟨_, _, z, e, q⟩
    cases h : ss.lookup x with
    | none => rw [h] at e; cases e
    | some v => rw [h] at e; cases e; exact ⟨v, rfl, q⟩
  · rintro ⟨v, e, q⟩; exact ⟨rfl, kind_shelves, _, by rw [e]; rfl, q⟩
theorem any_keys {a b : Str} : ∀ {ks : Keys}, ((keysD ks).any fun p => eqv (.tup [.str a, .str b]) p.1) = (ks.map (·.1)).contains (a, b)
  | [] => rfl
  | (s, v) :: r => by
    have ih := any_keys (a := a) (b := b) (ks := r)
    unfold keysD at ih ⊢
    rw [List.map_cons, List.any_cons, List.map_cons, List.contains_cons, ← ih]
    simp only [eqv_spot]
theorem any_shelves {x : Str} : ∀ {ss : Shelves}, ((shelvesD ss).any fun p => eqv (.str x) p.1) = (ss.map (·.1)).contains x
  | [] => rfl
  | (s, v) :: r => by
    have ih := any_shelves (x := x) (ss := r)
    unfold shelvesD at ih ⊢
    rw [List.map_cons, List.any_cons, List.map_cons, List.contains_cons, ← ih]
    simp only [eqv_str]
theorem put_keys {a b : Str} {ks : Keys} {v : Int} (h : (a, b) ∉ ks.map (·.1)) : putD (keysD ks) (.tup [.str a, .str b]) (.int v) = keysD (ks ++ [((a, b), v)]) := by
  unfold putD
  rw [any_keys, if_neg (by simpa using h)]
  simp [keysD, spotD]
theorem put_shelves {x : Str} {ss : Shelves} {v : Int} (h : x ∉ ss.map (·.1)) : putD (shelvesD ss) (.str x) (.int v) = shelvesD (ss ++ [(x, v)]) := by
  unfold putD
  rw [any_shelves, if_neg (by simpa using h)]
  simp [shelvesD]
theorem put_shelves2 {x : Str} {ss : Shelves} {v w : Int} (h : x ∉ ss.map (·.1)) : putD (shelvesD (ss ++ [(x, v)])) (.str x) (.int w) = shelvesD (ss ++ [(x, w)]) := by
  unfold putD
  rw [any_shelves, if_pos (by simp)]
  unfold shelvesD
  rw [List.map_map, List.map_append, List.map_append]
  congr 1
  · apply List.map_congr_left
    intro p m
    have : ¬ x = p.1 := fun e => h (by rw [e]; exact List.mem_map_of_mem m)
    simp [eqv_str, this]
  · simp [eqv_str]
/-! ### what is there -/
def kn : Row → Option Str
  | .key x .. => some x
  | _ => none
def on' : Row → Option Str
  | .own x .. => some x
  | _ => none
theorem keyNames_eq {m : Make} : keyNames m = m.rows.filterMap kn := rfl
theorem ownNames_eq {m : Make} : ownNames m = m.rows.filterMap on' := rfl
abbrev keyRows (m : Make) : List Row := m.rows.filter fun r => decide (r.word = "key")
abbrev ownRows (m : Make) : List Row := m.rows.filter fun r => decide (r.word = "own")
theorem kn_rows {m : Make} : (keyRows m).filterMap kn = keyNames m := by
  rw [keyNames_eq, List.filterMap_filter]
  congr 1; funext r; cases r <;> rfl
theorem on_rows {m : Make} : (ownRows m).filterMap on' = ownNames m := by
  rw [ownNames_eq, List.filterMap_filter]
  congr 1; funext r; cases r <;> rfl
theorem key_of {m : Make} {r : Row} (h : r ∈ keyRows m) : ∃ x lo hi f c, r = .key x lo hi f c := by
  have := (List.mem_filter.mp h).2
  cases r with
  | key x lo hi f c => exact ⟨x, lo, hi, f, c, rfl⟩
  | on n => exact absurd this (show ¬ decide (("on" : Str) = "key") = true by decide)
  | own x lo hi f => exact absurd this (show ¬ decide (("own" : Str) = "key") = true by decide)
theorem own_of {m : Make} {r : Row} (h : r ∈ ownRows m) : ∃ x lo hi f, r = .own x lo hi f := by
  have := (List.mem_filter.mp h).2
  cases r with
  | own x lo hi f => exact ⟨x, lo, hi, f, rfl⟩
  | on n => exact absurd this (show ¬ decide (("on" : Str) = "own") = true by decide)
  | key x lo hi f c => exact absurd this (show ¬ decide (("key" : Str) = "own") = true by decide)
theorem rNe_nil {xs : List D} {S : Own} {R : DVK} (h : plDs xs = true) (q : R (.bl (!xs.isEmpty)) S) : rNeD (.lst xs) (.lst []) S R := by
  refine rNe_pl (by unfold plD; exact h) rfl (by unfold plMin; simp only [toP, toPs, PyData.depth, PyData.depthAll]; omega) ?_
  cases xs <;> exact q
theorem plDs_all : ∀ {xs : List D}, (∀ d ∈ xs, plD d = true) → plDs xs = true
  | [], _ => rfl
  | d :: ds, h => by unfold plDs; rw [h d (.head _), plDs_all fun x m => h x (.tail _ m)]; rfl
theorem rd_kept_number {ds : List D} {S : Own} {R : DVK} {RX : DXK} (h : spkept_number ds S R RX) : tkept_number (En R) (startD Nkept_number ds) S := by
  obtain ⟨ks, was, m, x, lo, hi, f, c, rfl, hw, q⟩ := h
  cases was with
  | none =>
    have q : R (.int f) S := q
    simpa only [tkept_number, tkept_number_s0, tkept_number_s1, tkept_number_s2, Row.d, wasD, rIsND, DL.isNon, ix_make1, dSeq, dIfS, dTb, d2, d1, dVar, dC, dRet, dSet, dPut, dNext, dCB, dCons, dNil, dTup, dLst, dCall, dAnd, dOr, dNot, dAndV, dOrV, dNotV, dChain, dDrop, dIf, dgName, dgNil, dgCons, dgTup, dAsg, dPar, startD, wipeD, List.map_cons, List.map_nil, List.length_cons, List.length_nil, List.replicate, List.cons_append, List.nil_append, List.append_nil, List.getElem?_cons_zero, List.getElem?_cons_succ, Option.some.injEq, exists_eq_left', exists_eq_left, List.set_cons_zero, List.set_cons_succ, rEq_ii, rEq_ss, rNe_ss, rI1_ii, rI2_ii, DL.ix_lst, DL.ix_tup, atI_0, atI_1, atI_2, atI_3, atI_4, atI_5, some_ex, bl_ex, int_ex, len_lst, len_tup, mul_ii, add_ii, add_ll, add_tt, add_ss, decide_eq_true_eq, D.tup.injEq, D.lst.injEq, D.dct.injEq, D.str.injEq, D.int.injEq, D.bl.injEq, D.ref.injEq, Nat.zero_add, Nat.add_zero, Nat.sub_self, Nat.add_one_sub_one, Nat.reduceAdd, Nat.reduceSub, cons_ex, pair_ex, sz_0, sz_1, sz_2, sz_3, sz_4, sz_5, sz_6, sz_7, sz_8, true_and, eq_self, if_true, true_and] using q
  | some e =>
    cases hk : ks.lookup (m.part, x) with
    | none =>
      simp only [tkept_number, tkept_number_s0, tkept_number_s1, tkept_number_s2, Row.d, wasD, rIsND, isNon_make, ix_make1, in_keys, hk, dSeq, dIfS, dTb, d2, d1, dVar, dC, dRet, dSet, dPut, dNext, dCB, dCons, dNil, dTup, dLst, dCall, dAnd, dOr, dNot, dAndV, dOrV, dNotV, dChain, dDrop, dIf, dgName, dgNil, dgCons, dgTup, dAsg, dPar, startD, wipeD, List.map_cons, List.map_nil, List.length_cons, List.length_nil, List.replicate, List.cons_append, List.nil_append, List.append_nil, List.getElem?_cons_zero, List.getElem?_cons_succ, Option.some.injEq, exists_eq_left', exists_eq_left, List.set_cons_zero, List.set_cons_succ, rEq_ii, rEq_ss, rNe_ss, rI1_ii, rI2_ii, DL.ix_lst, DL.ix_tup, atI_0, atI_1, atI_2, atI_3, atI_4, atI_5, some_ex, bl_ex, int_ex, len_lst, len_tup, mul_ii, add_ii, add_ll, add_tt, add_ss, decide_eq_true_eq, D.tup.injEq, D.lst.injEq, D.dct.injEq, D.str.injEq, D.int.injEq, D.bl.injEq, D.ref.injEq, Nat.zero_add, Nat.add_zero, Nat.sub_self, Nat.add_one_sub_one, Nat.reduceAdd, Nat.reduceSub, cons_ex, pair_ex, sz_0, sz_1, sz_2, sz_3, sz_4, sz_5, sz_6, sz_7, sz_8, true_and, eq_self, if_true, true_and, Option.isSome_none, Bool.not_false]
      simpa only [keptN, hk, Bool.false_eq_true, if_false] using q
    | some v =>
      simp only [tkept_number, tkept_number_s0, tkept_number_s1, tkept_number_s2, tkept_number_s3, tkept_number_s4, tkept_number_s5, tkept_number_s6, Row.d, wasD, rIsND, isNon_make, ix_make1, in_keys, ix_keys, hk, dSeq, dIfS, dTb, d2, d1, dVar, dC, dRet, dSet, dPut, dNext, dCB, dCons, dNil, dTup, dLst, dCall, dAnd, dOr, dNot, dAndV, dOrV, dNotV, dChain, dDrop, dIf, dgName, dgNil, dgCons, dgTup, dAsg, dPar, startD, wipeD, List.map_cons, List.map_nil, List.length_cons, List.length_nil, List.replicate, List.cons_append, List.nil_append, List.append_nil, List.getElem?_cons_zero, List.getElem?_cons_succ, Option.some.injEq, exists_eq_left', exists_eq_left, List.set_cons_zero, List.set_cons_succ, rEq_ii, rEq_ss, rNe_ss, rI1_ii, rI2_ii, DL.ix_lst, DL.ix_tup, atI_0, atI_1, atI_2, atI_3, atI_4, atI_5, some_ex, bl_ex, int_ex, len_lst, len_tup, mul_ii, add_ii, add_ll, add_tt, add_ss, decide_eq_true_eq, D.tup.injEq, D.lst.injEq, D.dct.injEq, D.str.injEq, D.int.injEq, D.bl.injEq, D.ref.injEq, Nat.zero_add, Nat.add_zero, Nat.sub_self, Nat.add_one_sub_one, Nat.reduceAdd, Nat.reduceSub, cons_ex, pair_ex, sz_0, sz_1, sz_2, sz_3, sz_4, sz_5, sz_6, sz_7, sz_8, true_and, eq_self, if_true, true_and, Option.isSome_some, Bool.not_true, dLc, diLst]
      simp only [Bool.false_eq_true, if_false]
      refine rEq_sh (sh_make e) (sh_pl (sh_make m)).1 ?_
      simp only [keptN, hk] at q
      simp only [bl_ex]
      by_cases he : eqv e.d m.d = true
      · rw [if_pos he] at q ⊢; exact q
      rw [if_neg he] at q ⊢
      refine ⟨e, "key", rfl, hw e rfl, ?_⟩
      refine lcRun_map Row.d (fun r => if kn r = some x then some r.d else none) (Nat.le_trans (List.length_filter_le _ _) (by have := size1000; have := hw e rfl; omega)) trivial (fun r hr K k => ?_) ?_
      · obtain ⟨y, l, h', g, cc, rfl⟩ := key_of hr
        simp only [Row.d, dSeq, dIfS, dTb, d2, d1, dVar, dC, dRet, dSet, dPut, dNext, dCB, dCons, dNil, dTup, dLst, dCall, dAnd, dOr, dNot, dAndV, dOrV, dNotV, dChain, dDrop, dIf, dgName, dgNil, dgCons, dgTup, dAsg, dPar, startD, wipeD, List.map_cons, List.map_nil, List.length_cons, List.length_nil, List.replicate, List.cons_append, List.nil_append, List.append_nil, List.getElem?_cons_zero, List.getElem?_cons_succ, Option.some.injEq, exists_eq_left', exists_eq_left, List.set_cons_zero, List.set_cons_succ, rEq_ii, rEq_ss, rNe_ss, rI1_ii, rI2_ii, DL.ix_lst, DL.ix_tup, atI_0, atI_1, atI_2, atI_3, atI_4, atI_5, some_ex, bl_ex, int_ex, len_lst, len_tup, mul_ii, add_ii, add_ll, add_tt, add_ss, decide_eq_true_eq, D.tup.injEq, D.lst.injEq, D.dct.injEq, D.str.injEq, D.int.injEq, D.bl.injEq, D.ref.injEq, Nat.zero_add, Nat.add_zero, Nat.sub_self, Nat.add_one_sub_one, Nat.reduceAdd, Nat.reduceSub, cons_ex, pair_ex, sz_0, sz_1, sz_2, sz_3, sz_4, sz_5, sz_6, sz_7, sz_8, true_and, eq_self]
        by_cases hy : y = x
        · subst hy
          have k' : K (if kn (Row.key y l h' g cc) = some y then some (Row.key y l h' g cc).d else none) S := k
          rw [if_pos (show kn (Row.key y l h' g cc) = some y from rfl)] at k'
          simp only [if_true]
          exact k'
        · have this : ¬ some y = some x := fun z => hy (Option.some.inj z)
          have k' : K (if kn (Row.key y l h' g cc) = some x then some (Row.key y l h' g cc).d else none) S := k
          rw [if_neg (show ¬ kn (Row.key y l h' g cc) = some x from this)] at k'
          simpa only [if_neg hy] using k'
      · have e1 : (!((keyRows e).filterMap fun r => if kn r = some x then some r.d else none).isEmpty) = hasKey e x := by
          unfold hasKey
          rw [← kn_rows]
          generalize keyRows e = rs
          induction rs with
          | nil => rfl
          | cons r rs ih =>
            rw [List.filterMap_cons, List.filterMap_cons]
            cases hkn : kn r with
            | none => simpa using ih
            | some y =>
              by_cases hy : y = x
              · subst hy; simp
              · have h2 : ¬ x = y := fun z => hy z.symm
                rw [if_neg (by simpa using hy)]
                simpa [h2] using ih
        refine rNe_nil (plDs_all fun d hd => ?_) ?_
        · obtain ⟨r, _, hr⟩ := List.mem_filterMap.mp hd
          split at hr
          · cases hr; exact (sh_pl (sh_row r)).1
          · cases hr
        rw [e1]
        simp only [bl_ex]
        by_cases h1 : hasKey e x = true
        · by_cases h2 : c = "kept"
          · by_cases h3 : lo ≤ v
            · by_cases h4 : v ≤ hi
              · simpa [h1, h2, h3, h4] using q
              · simpa [h1, h2, h3, h4] using q
            · simpa [h1, h2, h3] using q
          · simpa [h1, h2] using q
        · simpa [h1] using q
/-! ### keys_over -/
def keyRow (ks : Keys) (was : Option Make) (m : Make) : Row → Option (Spot × Int)
  | .key x lo hi f c => some ((m.part, x), keptN ks was m x lo hi f c)
  | _ => none
theorem keysMake_eq {ks : Keys} {was : Option Make} {m : Make} : keysMake ks was m = (keyRows m).filterMap (keyRow ks was m) := by
  unfold keysMake
  rw [List.filterMap_filter]
  congr 1; funext r; cases r <;> rfl
theorem keyRow_fst {ks : Keys} {was : Option Make} {m : Make} : ∀ {rs : List Row}, (rs.filterMap (keyRow ks was m)).map (·.1) = (rs.filterMap kn).map fun x => (m.part, x)
  | [] => rfl
  | r :: rs => by
    have ih := keyRow_fst (ks := ks) (was := was) (m := m) (rs := rs)
    cases r <;> first | exact ih | exact congrArg (_ :: ·) ih
theorem keysMake_fst {ks : Keys} {was : Option Make} {m : Make} : (keysMake ks was m).map (·.1) = spotsOf m := by
  rw [keysMake_eq, keyRow_fst, kn_rows]; rfl
theorem keysOver_fst {ks : Keys} {el : List Make} : ∀ {ms : List Make}, (keysOver ks el ms).map (·.1) = spots ms
  | [] => rfl
  | m :: ms => by
    have ih := keysOver_fst (ks := ks) (el := el) (ms := ms)
    unfold keysOver spots at ih ⊢
    rw [List.flatMap_cons, List.map_append, ih, List.flatMap_cons, keysMake_fst]
theorem keysOver_snoc {ks : Keys} {el pre : List Make} {m : Make} : keysOver ks el (pre ++ [m]) = keysOver ks el pre ++ keysMake ks (el.find? fun e => e.part == m.part) m := by
  unfold keysOver; simp
theorem spots_part {s : Spot} : ∀ {ms : List Make}, s ∈ spots ms → s.1 ∈ ms.map (·.part) := fun {ms} h => by
  unfold spots at h
  obtain ⟨m, hm, h⟩ := List.mem_flatMap.mp h
  obtain ⟨x, _, rfl⟩ := List.mem_map.mp h
  exact List.mem_map_of_mem hm
theorem fm_len {α β : Type} {f : α → List β} {n : Nat} : ∀ {l : List α}, (∀ a ∈ l, (f a).length ≤ n) → (l.flatMap f).length ≤ l.length * n
  | [], _ => by simp
  | a :: l, h => by
    have := fm_len (l := l) fun b m => h b (.tail _ m)
    have := h a (.head _)
    rw [List.flatMap_cons, List.length_append, List.length_cons, Nat.succ_mul]; omega
theorem keyNames_len {m : Make} (h : MOk m) : (keyNames m).length ≤ 100 := by
  rw [keyNames_eq]; exact Nat.le_trans (List.length_filterMap_le _ _) h.few
theorem ownNames_len {m : Make} (h : MOk m) : (ownNames m).length ≤ 100 := by
  rw [ownNames_eq]; exact Nat.le_trans (List.length_filterMap_le _ _) h.few
theorem spots_len {ms : List Make} (h : MsOk ms) {pre post : List Make} {m : Make} (e : ms = pre ++ m :: post) : (spots pre).length ≤ 300 := by
  have h1 : (spots pre).length ≤ pre.length * 100 := fm_len fun m hm => by
    unfold spotsOf; rw [List.length_map]; exact keyNames_len (h.each m (by rw [e]; exact List.mem_append_left _ hm))
  have h2 : pre.length ≤ 3 := by have := h.few; rw [e] at this; simp at this; omega
  omega
theorem owns_len {ms : List Make} (h : MsOk ms) {pre post : List Make} {m : Make} (e : ms = pre ++ m :: post) : (owns pre).length ≤ 300 := by
  have h1 : (owns pre).length ≤ pre.length * 100 := fm_len fun m hm => ownNames_len (h.each m (by rw [e]; exact List.mem_append_left _ hm))
  have h2 : pre.length ≤ 3 := by have := h.few; rw [e] at this; simp at this; omega
  omega
theorem fresh_spot {ms : List Make} (h : MsOk ms) {pre post : List Make} {m : Make} (e : ms = pre ++ m :: post) {rp rq : List Row} {x : Str} {lo hi f : Int} {c : Str} (e2 : keyRows m = rp ++ .key x lo hi f c :: rq) : (m.part, x) ∉ spots pre ++ (rp.filterMap kn).map fun y => (m.part, y) := by
  intro hm
  rcases List.mem_append.mp hm with hm | hm
  · have h1 := spots_part hm
    have h2 := h.parts
    rw [e, List.map_append, List.map_cons, List.nodup_append] at h2
    exact h2.2.2 _ h1 _ (.head _) rfl
  · obtain ⟨y, hy, ey⟩ := List.mem_map.mp hm
    cases ey
    have h2 := (h.each m (by rw [e]; simp)).keys
    rw [← kn_rows, e2, List.filterMap_append, List.nodup_append] at h2
    exact h2.2.2 _ hy _ (by simp [kn]) rfl
theorem ix_key1 {x : Str} {lo hi f : Int} {c : Str} {S : Own} {R : DVK} : rIxD (Row.key x lo hi f c).d (.int 1) S R = R (.str x) S := by
  unfold Row.d; simp only [DL.ix_tup, atI_1, Option.some.injEq, exists_eq_left']
theorem find_was {el : List Make} {m : Make} : atI ((el.filterMap fun e => if e.part = m.part then some e.d else none) ++ [.non]) 0 = some (wasD (el.find? fun e => e.part == m.part)) := by
  induction el with
  | nil => rfl
  | cons e el ih =>
    by_cases h : e.part = m.part
    · simp only [List.filterMap_cons, h, if_true, List.cons_append, atI_0, List.find?_cons, beq_self_eq_true]; rfl
    · have : (e.part == m.part) = false := by simpa using h
      simp only [List.filterMap_cons, if_neg h, List.find?_cons, this]; exact ih
theorem rd_keys_over {ds : List D} {S : Own} {R : DVK} {RX : DXK} (h : spkeys_over ds S R RX) : tkeys_over (En R) (startD Nkeys_over ds) S := by
  obtain ⟨ks, el, nw, rfl, he, hn, q⟩ := h
  simp only [tkeys_over, tkeys_over_s0, tkeys_over_s1, tkeys_over_s2, dDctO, dFor, diLst, dSeq, dIfS, dTb, d2, d1, dVar, dC, dRet, dSet, dPut, dNext, dCB, dCons, dNil, dTup, dLst, dCall, dAnd, dOr, dNot, dAndV, dOrV, dNotV, dChain, dDrop, dIf, dgName, dgNil, dgCons, dgTup, dAsg, dPar, startD, wipeD, List.map_cons, List.map_nil, List.length_cons, List.length_nil, List.replicate, List.cons_append, List.nil_append, List.append_nil, List.getElem?_cons_zero, List.getElem?_cons_succ, Option.some.injEq, exists_eq_left', exists_eq_left, List.set_cons_zero, List.set_cons_succ, rEq_ii, rEq_ss, rNe_ss, rI1_ii, rI2_ii, DL.ix_lst, DL.ix_tup, atI_0, atI_1, atI_2, atI_3, atI_4, atI_5, some_ex, bl_ex, int_ex, len_lst, len_tup, mul_ii, add_ii, add_ll, add_tt, add_ss, decide_eq_true_eq, D.tup.injEq, D.lst.injEq, D.dct.injEq, D.str.injEq, D.int.injEq, D.bl.injEq, D.ref.injEq, Nat.zero_add, Nat.add_zero, Nat.sub_self, Nat.add_one_sub_one, Nat.reduceAdd, Nat.reduceSub, cons_ex, pair_ex, sz_0, sz_1, sz_2, sz_3, sz_4, sz_5, sz_6, sz_7, sz_8, true_and, eq_self]
  intro p hp
  refine forRun_map Make.d (fun pre G' S' => (∃ a b c d, G' = [some (.dct (keysD ks)), some (.lst (el.map Make.d)), some (.lst (nw.map Make.d)), some (.ref p), a, b, c, d]) ∧ S' = S.put p (.dct (keysD (keysOver ks el pre)))) ⟨⟨_, _, _, _, rfl⟩, rfl⟩ ?_ ?_
  · rintro pre m post G' S' K eq ⟨⟨a, b, c, d, rfl⟩, rfl⟩ k
    refine ⟨trivial, ?_⟩
    simp only [tkeys_over_b1, dLc, dFor, diLst, dSeq, dIfS, dTb, d2, d1, dVar, dC, dRet, dSet, dPut, dNext, dCB, dCons, dNil, dTup, dLst, dCall, dAnd, dOr, dNot, dAndV, dOrV, dNotV, dChain, dDrop, dIf, dgName, dgNil, dgCons, dgTup, dAsg, dPar, startD, wipeD, List.map_cons, List.map_nil, List.length_cons, List.length_nil, List.replicate, List.cons_append, List.nil_append, List.append_nil, List.getElem?_cons_zero, List.getElem?_cons_succ, Option.some.injEq, exists_eq_left', exists_eq_left, List.set_cons_zero, List.set_cons_succ, rEq_ii, rEq_ss, rNe_ss, rI1_ii, rI2_ii, DL.ix_lst, DL.ix_tup, atI_0, atI_1, atI_2, atI_3, atI_4, atI_5, some_ex, bl_ex, int_ex, len_lst, len_tup, mul_ii, add_ii, add_ll, add_tt, add_ss, decide_eq_true_eq, D.tup.injEq, D.lst.injEq, D.dct.injEq, D.str.injEq, D.int.injEq, D.bl.injEq, D.ref.injEq, Nat.zero_add, Nat.add_zero, Nat.sub_self, Nat.add_one_sub_one, Nat.reduceAdd, Nat.reduceSub, cons_ex, pair_ex, sz_0, sz_1, sz_2, sz_3, sz_4, sz_5, sz_6, sz_7, sz_8, true_and, eq_self]
    have lel := he.few
    have hz := size1000
    refine lcRun_map Make.d (fun e => if e.part = m.part then some e.d else none) (by omega) trivial (fun e _ K k => ?_) ?_
    · simp only [ix_make1, dSeq, dIfS, dTb, d2, d1, dVar, dC, dRet, dSet, dPut, dNext, dCB, dCons, dNil, dTup, dLst, dCall, dAnd, dOr, dNot, dAndV, dOrV, dNotV, dChain, dDrop, dIf, dgName, dgNil, dgCons, dgTup, dAsg, dPar, startD, wipeD, List.map_cons, List.map_nil, List.length_cons, List.length_nil, List.replicate, List.cons_append, List.nil_append, List.append_nil, List.getElem?_cons_zero, List.getElem?_cons_succ, Option.some.injEq, exists_eq_left', exists_eq_left, List.set_cons_zero, List.set_cons_succ, rEq_ii, rEq_ss, rNe_ss, rI1_ii, rI2_ii, DL.ix_lst, DL.ix_tup, atI_0, atI_1, atI_2, atI_3, atI_4, atI_5, some_ex, bl_ex, int_ex, len_lst, len_tup, mul_ii, add_ii, add_ll, add_tt, add_ss, decide_eq_true_eq, D.tup.injEq, D.lst.injEq, D.dct.injEq, D.str.injEq, D.int.injEq, D.bl.injEq, D.ref.injEq, Nat.zero_add, Nat.add_zero, Nat.sub_self, Nat.add_one_sub_one, Nat.reduceAdd, Nat.reduceSub, cons_ex, pair_ex, sz_0, sz_1, sz_2, sz_3, sz_4, sz_5, sz_6, sz_7, sz_8, true_and, eq_self]
      by_cases hr : e.part = m.part
      · simpa only [if_pos hr] using k
      · simpa only [if_neg hr] using k
    · simp only [dSeq, dIfS, dTb, d2, d1, dVar, dC, dRet, dSet, dPut, dNext, dCB, dCons, dNil, dTup, dLst, dCall, dAnd, dOr, dNot, dAndV, dOrV, dNotV, dChain, dDrop, dIf, dgName, dgNil, dgCons, dgTup, dAsg, dPar, startD, wipeD, List.map_cons, List.map_nil, List.length_cons, List.length_nil, List.replicate, List.cons_append, List.nil_append, List.append_nil, List.getElem?_cons_zero, List.getElem?_cons_succ, Option.some.injEq, exists_eq_left', exists_eq_left, List.set_cons_zero, List.set_cons_succ, rEq_ii, rEq_ss, rNe_ss, rI1_ii, rI2_ii, DL.ix_lst, DL.ix_tup, atI_0, atI_1, atI_2, atI_3, atI_4, atI_5, some_ex, bl_ex, int_ex, len_lst, len_tup, mul_ii, add_ii, add_ll, add_tt, add_ss, decide_eq_true_eq, D.tup.injEq, D.lst.injEq, D.dct.injEq, D.str.injEq, D.int.injEq, D.bl.injEq, D.ref.injEq, Nat.zero_add, Nat.add_zero, Nat.sub_self, Nat.add_one_sub_one, Nat.reduceAdd, Nat.reduceSub, cons_ex, pair_ex, sz_0, sz_1, sz_2, sz_3, sz_4, sz_5, sz_6, sz_7, sz_8, true_and, eq_self, find_was]
      have hm := hn.each m (by rw [eq]; simp)
      refine ⟨by have := List.length_filterMap_le (fun e : Make => if e.part = m.part then some e.d else none) el; omega, m, "key", rfl, hm.few, ?_⟩
      refine forRun_map Row.d (all := keyRows m) (fun rp G' S' => (∃ a b, G' = [some (.dct (keysD ks)), some (.lst (el.map Make.d)), some (.lst (nw.map Make.d)), some (.ref p), some m.d, some (wasD (el.find? fun e => e.part == m.part)), a, b]) ∧ S' = S.put p (.dct (keysD (keysOver ks el pre ++ rp.filterMap (keyRow ks (el.find? fun e => e.part == m.part) m))))) ⟨⟨_, _, rfl⟩, by simp⟩ ?_ ?_
      · rintro rp r rq G' S' K2 eq2 ⟨⟨a, b, rfl⟩, rfl⟩ k2
        refine ⟨trivial, ?_⟩
        obtain ⟨x, lo, hi, f, c, rfl⟩ := key_of (m := m) (r := r) (by rw [eq2]; simp)
        simp only [tkeys_over_b0, dSeq, dIfS, dTb, d2, d1, dVar, dC, dRet, dSet, dPut, dNext, dCB, dCons, dNil, dTup, dLst, dCall, dAnd, dOr, dNot, dAndV, dOrV, dNotV, dChain, dDrop, dIf, dgName, dgNil, dgCons, dgTup, dAsg, dPar, startD, wipeD, List.map_cons, List.map_nil, List.length_cons, List.length_nil, List.replicate, List.cons_append, List.nil_append, List.append_nil, List.getElem?_cons_zero, List.getElem?_cons_succ, Option.some.injEq, exists_eq_left', exists_eq_left, List.set_cons_zero, List.set_cons_succ, rEq_ii, rEq_ss, rNe_ss, rI1_ii, rI2_ii, DL.ix_lst, DL.ix_tup, atI_0, atI_1, atI_2, atI_3, atI_4, atI_5, some_ex, bl_ex, int_ex, len_lst, len_tup, mul_ii, add_ii, add_ll, add_tt, add_ss, decide_eq_true_eq, D.tup.injEq, D.lst.injEq, D.dct.injEq, D.str.injEq, D.int.injEq, D.bl.injEq, D.ref.injEq, Nat.zero_add, Nat.add_zero, Nat.sub_self, Nat.add_one_sub_one, Nat.reduceAdd, Nat.reduceSub, cons_ex, pair_ex, sz_0, sz_1, sz_2, sz_3, sz_4, sz_5, sz_6, sz_7, sz_8, true_and, eq_self]
        refine ⟨ks, _, m, x, lo, hi, f, c, rfl, fun e h => (he.each e (List.mem_of_find?_eq_some h)).few, ?_⟩
        simp only [ix_make1, ix_key1, setd_put, dSeq, dIfS, dTb, d2, d1, dVar, dC, dRet, dSet, dPut, dNext, dCB, dCons, dNil, dTup, dLst, dCall, dAnd, dOr, dNot, dAndV, dOrV, dNotV, dChain, dDrop, dIf, dgName, dgNil, dgCons, dgTup, dAsg, dPar, startD, wipeD, List.map_cons, List.map_nil, List.length_cons, List.length_nil, List.replicate, List.cons_append, List.nil_append, List.append_nil, List.getElem?_cons_zero, List.getElem?_cons_succ, Option.some.injEq, exists_eq_left', exists_eq_left, List.set_cons_zero, List.set_cons_succ, rEq_ii, rEq_ss, rNe_ss, rI1_ii, rI2_ii, DL.ix_lst, DL.ix_tup, atI_0, atI_1, atI_2, atI_3, atI_4, atI_5, some_ex, bl_ex, int_ex, len_lst, len_tup, mul_ii, add_ii, add_ll, add_tt, add_ss, decide_eq_true_eq, D.tup.injEq, D.lst.injEq, D.dct.injEq, D.str.injEq, D.int.injEq, D.bl.injEq, D.ref.injEq, Nat.zero_add, Nat.add_zero, Nat.sub_self, Nat.add_one_sub_one, Nat.reduceAdd, Nat.reduceSub, cons_ex, pair_ex, sz_0, sz_1, sz_2, sz_3, sz_4, sz_5, sz_6, sz_7, sz_8, true_and, eq_self]
        have fr := fresh_spot hn eq eq2
        have fs := keysOver_fst (ks := ks) (el := el) (ms := pre)
        have fr2 := keyRow_fst (ks := ks) (was := el.find? fun e => e.part == m.part) (m := m) (rs := rp)
        refine ⟨rfl, kind_keys, ?_, ?_⟩
        · have l1 := spots_len hn eq
          have l2 : (rp.filterMap (keyRow ks (el.find? fun e => e.part == m.part) m)).length ≤ 100 := by
            refine Nat.le_trans (List.length_filterMap_le _ _) ?_
            have : (keyRows m).length ≤ m.rows.length := List.length_filter_le _ _
            have : (keyRows m).length = rp.length + (rq.length + 1) := by rw [eq2]; simp
            have := hm.few
            omega
          rw [← fs, List.length_map] at l1
          unfold keysD
          rw [List.length_map, List.length_append]; omega
        · rw [put_keys (by rw [List.map_append, fs, fr2]; exact fr)]
          exact k2 _ _ ⟨⟨_, _, rfl⟩, by simp [keyRow]⟩
      · rintro G' S' ⟨⟨a, b, rfl⟩, rfl⟩
        exact ⟨trivial, k _ _ ⟨⟨_, _, _, _, rfl⟩, by rw [keysOver_snoc, keysMake_eq]⟩⟩
  · rintro G' S' ⟨⟨a, b, c, d, rfl⟩, rfl⟩
    refine ⟨trivial, ?_⟩
    simp only [dSeq, dIfS, dTb, d2, d1, dVar, dC, dRet, dSet, dPut, dNext, dCB, dCons, dNil, dTup, dLst, dCall, dAnd, dOr, dNot, dAndV, dOrV, dNotV, dChain, dDrop, dIf, dgName, dgNil, dgCons, dgTup, dAsg, dPar, startD, wipeD, List.map_cons, List.map_nil, List.length_cons, List.length_nil, List.replicate, List.cons_append, List.nil_append, List.append_nil, List.getElem?_cons_zero, List.getElem?_cons_succ, Option.some.injEq, exists_eq_left', exists_eq_left, List.set_cons_zero, List.set_cons_succ, rEq_ii, rEq_ss, rNe_ss, rI1_ii, rI2_ii, DL.ix_lst, DL.ix_tup, atI_0, atI_1, atI_2, atI_3, atI_4, atI_5, some_ex, bl_ex, int_ex, len_lst, len_tup, mul_ii, add_ii, add_ll, add_tt, add_ss, decide_eq_true_eq, D.tup.injEq, D.lst.injEq, D.dct.injEq, D.str.injEq, D.int.injEq, D.bl.injEq, D.ref.injEq, Nat.zero_add, Nat.add_zero, Nat.sub_self, Nat.add_one_sub_one, Nat.reduceAdd, Nat.reduceSub, cons_ex, pair_ex, sz_0, sz_1, sz_2, sz_3, sz_4, sz_5, sz_6, sz_7, sz_8, true_and, eq_self]
    exact q p hp
/-! ### shelves_over -/
def ownRow (ss : Shelves) (owned : List Str) : Row → Option (Str × Int)
  | .own x lo hi f => some (x, shelfN ss owned x lo hi f)
  | _ => none
theorem shelvesMake_eq {ss : Shelves} {owned : List Str} {m : Make} : shelvesMake ss owned m = (ownRows m).filterMap (ownRow ss owned) := by
  unfold shelvesMake
  rw [List.filterMap_filter]
  congr 1; funext r; cases r <;> rfl
theorem ownRow_fst {ss : Shelves} {owned : List Str} : ∀ {rs : List Row}, (rs.filterMap (ownRow ss owned)).map (·.1) = rs.filterMap on'
  | [] => rfl
  | r :: rs => by
    have ih := ownRow_fst (ss := ss) (owned := owned) (rs := rs)
    cases r <;> first | exact ih | exact congrArg (_ :: ·) ih
theorem shelvesOver_fst {ss : Shelves} {el : List Make} : ∀ {ms : List Make}, (shelvesOver ss el ms).map (·.1) = owns ms
  | [] => rfl
  | m :: ms => by
    have ih := shelvesOver_fst (ss := ss) (el := el) (ms := ms)
    unfold shelvesOver owns at ih ⊢
    rw [List.flatMap_cons, List.map_append, ih, List.flatMap_cons, shelvesMake_eq, ownRow_fst, on_rows]
theorem shelvesOver_snoc {ss : Shelves} {el pre : List Make} {m : Make} : shelvesOver ss el (pre ++ [m]) = shelvesOver ss el pre ++ shelvesMake ss (owns el) m := by
  unfold shelvesOver; simp
def ownD (ns : List Str) : List (D × D) := ns.map fun x => (.str x, .bl true)
theorem any_own {x : Str} : ∀ {ns : List Str}, ((ownD ns).any fun p => eqv (.str x) p.1) = ns.contains x
  | [] => rfl
  | s :: r => by
    have ih := any_own (x := x) (ns := r)
    unfold ownD at ih ⊢
    rw [List.map_cons, List.any_cons, List.contains_cons, ← ih]
    simp only [eqv_str]
theorem kind_own {ns : List Str} {x : Str} : kindD (ownD ns) (.str x) = true := by
  unfold kindD ownD
  rw [List.all_map, List.all_eq_true]
  intro p _; rfl
theorem put_own {x : Str} {ns : List Str} (h : x ∉ ns) : putD (ownD ns) (.str x) (.bl true) = ownD (ns ++ [x]) := by
  unfold putD
  rw [any_own, if_neg (by simpa using h)]
  simp [ownD]
theorem in_own {ns : List Str} {x : Str} {S : Own} {R : DVK} : rInD false (.str x) (.dct (ownD ns)) S R = R (.bl (ns.contains x)) S := by
  unfold rInD
  have : (lookD (ownD ns) (.str x)).isSome = ns.contains x := by
    rw [← any_own]
    unfold lookD
    rw [Option.isSome_map, List.isSome_find?]
  simp only [this, kind_own, true_and, show keyB (.str x) = true from rfl, Bool.false_eq_true, if_false]
theorem ix_own1 {x : Str} {lo hi f : Int} {S : Own} {R : DVK} : rIxD (Row.own x lo hi f).d (.int 1) S R = R (.str x) S := by
  unfold Row.d; simp only [DL.ix_tup, atI_1, Option.some.injEq, exists_eq_left']
theorem owns_snoc {pre : List Make} {m : Make} : owns (pre ++ [m]) = owns pre ++ ownNames m := by unfold owns; simp
theorem fresh_own {ms : List Make} (h : MsOk ms) {pre post : List Make} {m : Make} (e : ms = pre ++ m :: post) {rp rq : List Row} {x : Str} {lo hi f : Int} (e2 : ownRows m = rp ++ .own x lo hi f :: rq) : x ∉ owns pre ++ rp.filterMap on' := by
  intro hm
  have h2 := h.owns
  have e3 : owns ms = (owns pre ++ rp.filterMap on') ++ (x :: rq.filterMap on') ++ owns post := by
    rw [e, show pre ++ m :: post = (pre ++ [m]) ++ post from by simp]
    unfold owns
    rw [List.flatMap_append, List.flatMap_append, List.flatMap_singleton, ← on_rows, e2, List.filterMap_append]
    simp [on']
  rw [e3, List.nodup_append] at h2
  have h3 := h2.1
  rw [List.nodup_append] at h3
  exact h3.2.2 _ hm _ (.head _) rfl
theorem rd_shelves_over {ds : List D} {S : Own} {R : DVK} {RX : DXK} (h : spshelves_over ds S R RX) : tshelves_over (En R) (startD Nshelves_over ds) S := by
  obtain ⟨ss, el, nw, rfl, he, hn, q⟩ := h
  simp only [tshelves_over, tshelves_over_s0, tshelves_over_s1, tshelves_over_s2, tshelves_over_s3, dDctO, dFor, diLst, dDc2, dYes, dSeq, dIfS, dTb, d2, d1, dVar, dC, dRet, dSet, dPut, dNext, dCB, dCons, dNil, dTup, dLst, dCall, dAnd, dOr, dNot, dAndV, dOrV, dNotV, dChain, dDrop, dIf, dgName, dgNil, dgCons, dgTup, dAsg, dPar, startD, wipeD, List.map_cons, List.map_nil, List.length_cons, List.length_nil, List.replicate, List.cons_append, List.nil_append, List.append_nil, List.getElem?_cons_zero, List.getElem?_cons_succ, Option.some.injEq, exists_eq_left', exists_eq_left, List.set_cons_zero, List.set_cons_succ, rEq_ii, rEq_ss, rNe_ss, rI1_ii, rI2_ii, DL.ix_lst, DL.ix_tup, atI_0, atI_1, atI_2, atI_3, atI_4, atI_5, some_ex, bl_ex, int_ex, len_lst, len_tup, mul_ii, add_ii, add_ll, add_tt, add_ss, decide_eq_true_eq, D.tup.injEq, D.lst.injEq, D.dct.injEq, D.str.injEq, D.int.injEq, D.bl.injEq, D.ref.injEq, Nat.zero_add, Nat.add_zero, Nat.sub_self, Nat.add_one_sub_one, Nat.reduceAdd, Nat.reduceSub, cons_ex, pair_ex, sz_0, sz_1, sz_2, sz_3, sz_4, sz_5, sz_6, sz_7, sz_8, true_and, eq_self]
  have hz := size1000
  have own_few : ∀ {m : Make} {rp rq : List Row} {r : Row}, MOk m → ownRows m = rp ++ r :: rq → rp.length ≤ 100 := fun {m rp rq r} hm e => by
    have : (ownRows m).length ≤ m.rows.length := List.length_filter_le _ _
    have : (ownRows m).length = rp.length + (rq.length + 1) := by rw [e]; simp
    have := hm.few
    omega
  refine dcOut_each Make.d (fun pre acc => acc = ownD (owns pre)) rfl trivial ?_ ?_
  · rintro pre m post acc K E eq rfl k
    simp only [dYes, diLst, dSeq, dIfS, dTb, d2, d1, dVar, dC, dRet, dSet, dPut, dNext, dCB, dCons, dNil, dTup, dLst, dCall, dAnd, dOr, dNot, dAndV, dOrV, dNotV, dChain, dDrop, dIf, dgName, dgNil, dgCons, dgTup, dAsg, dPar, startD, wipeD, List.map_cons, List.map_nil, List.length_cons, List.length_nil, List.replicate, List.cons_append, List.nil_append, List.append_nil, List.getElem?_cons_zero, List.getElem?_cons_succ, Option.some.injEq, exists_eq_left', exists_eq_left, List.set_cons_zero, List.set_cons_succ, rEq_ii, rEq_ss, rNe_ss, rI1_ii, rI2_ii, DL.ix_lst, DL.ix_tup, atI_0, atI_1, atI_2, atI_3, atI_4, atI_5, some_ex, bl_ex, int_ex, len_lst, len_tup, mul_ii, add_ii, add_ll, add_tt, add_ss, decide_eq_true_eq, D.tup.injEq, D.lst.injEq, D.dct.injEq, D.str.injEq, D.int.injEq, D.bl.injEq, D.ref.injEq, Nat.zero_add, Nat.add_zero, Nat.sub_self, Nat.add_one_sub_one, Nat.reduceAdd, Nat.reduceSub, cons_ex, pair_ex, sz_0, sz_1, sz_2, sz_3, sz_4, sz_5, sz_6, sz_7, sz_8, true_and, eq_self, if_true]
    have hm := he.each m (by rw [eq]; simp)
    refine ⟨m, "own", rfl, hm.few, ?_⟩
    refine dcIn_each Row.d (all := ownRows m) (fun rp acc => acc = ownD (owns pre ++ rp.filterMap on')) (by simp) trivial ?_ ?_
    · rintro rp r rq acc K2 E2 eq2 rfl k2
      obtain ⟨x, lo, hi, f, rfl⟩ := own_of (m := m) (r := r) (by rw [eq2]; simp)
      simp only [ix_own1, dYes, dSeq, dIfS, dTb, d2, d1, dVar, dC, dRet, dSet, dPut, dNext, dCB, dCons, dNil, dTup, dLst, dCall, dAnd, dOr, dNot, dAndV, dOrV, dNotV, dChain, dDrop, dIf, dgName, dgNil, dgCons, dgTup, dAsg, dPar, startD, wipeD, List.map_cons, List.map_nil, List.length_cons, List.length_nil, List.replicate, List.cons_append, List.nil_append, List.append_nil, List.getElem?_cons_zero, List.getElem?_cons_succ, Option.some.injEq, exists_eq_left', exists_eq_left, List.set_cons_zero, List.set_cons_succ, rEq_ii, rEq_ss, rNe_ss, rI1_ii, rI2_ii, DL.ix_lst, DL.ix_tup, atI_0, atI_1, atI_2, atI_3, atI_4, atI_5, some_ex, bl_ex, int_ex, len_lst, len_tup, mul_ii, add_ii, add_ll, add_tt, add_ss, decide_eq_true_eq, D.tup.injEq, D.lst.injEq, D.dct.injEq, D.str.injEq, D.int.injEq, D.bl.injEq, D.ref.injEq, Nat.zero_add, Nat.add_zero, Nat.sub_self, Nat.add_one_sub_one, Nat.reduceAdd, Nat.reduceSub, cons_ex, pair_ex, sz_0, sz_1, sz_2, sz_3, sz_4, sz_5, sz_6, sz_7, sz_8, true_and, eq_self, if_true]
      refine k2 _ _ rfl kind_own ?_ ?_
      · have := owns_len he eq
        have := List.length_filterMap_le on' rp
        have := own_few hm eq2
        unfold ownD; rw [List.length_map, List.length_append]; omega
      · rw [put_own (fresh_own he eq eq2)]; simp [on']
    · rintro acc rfl
      exact k _ (by rw [on_rows, owns_snoc])
  · rintro acc rfl
    intro p hp
    refine forRun_map Make.d (fun pre G' S' => (∃ a b c d e f g, G' = [some (.dct (shelvesD ss)), some (.lst (el.map Make.d)), some (.lst (nw.map Make.d)), some (.dct (ownD (owns el))), a, b, some (.ref p), c, d, e, f, g]) ∧ S' = S.put p (.dct (shelvesD (shelvesOver ss el pre)))) ⟨⟨_, _, _, _, _, _, _, rfl⟩, rfl⟩ ?_ ?_
    · rintro pre m post G' S' K eq ⟨⟨a, b, c, d, e, f, g, rfl⟩, rfl⟩ k
      refine ⟨trivial, ?_⟩
      simp only [tshelves_over_b1, dFor, diLst, dSeq, dIfS, dTb, d2, d1, dVar, dC, dRet, dSet, dPut, dNext, dCB, dCons, dNil, dTup, dLst, dCall, dAnd, dOr, dNot, dAndV, dOrV, dNotV, dChain, dDrop, dIf, dgName, dgNil, dgCons, dgTup, dAsg, dPar, startD, wipeD, List.map_cons, List.map_nil, List.length_cons, List.length_nil, List.replicate, List.cons_append, List.nil_append, List.append_nil, List.getElem?_cons_zero, List.getElem?_cons_succ, Option.some.injEq, exists_eq_left', exists_eq_left, List.set_cons_zero, List.set_cons_succ, rEq_ii, rEq_ss, rNe_ss, rI1_ii, rI2_ii, DL.ix_lst, DL.ix_tup, atI_0, atI_1, atI_2, atI_3, atI_4, atI_5, some_ex, bl_ex, int_ex, len_lst, len_tup, mul_ii, add_ii, add_ll, add_tt, add_ss, decide_eq_true_eq, D.tup.injEq, D.lst.injEq, D.dct.injEq, D.str.injEq, D.int.injEq, D.bl.injEq, D.ref.injEq, Nat.zero_add, Nat.add_zero, Nat.sub_self, Nat.add_one_sub_one, Nat.reduceAdd, Nat.reduceSub, cons_ex, pair_ex, sz_0, sz_1, sz_2, sz_3, sz_4, sz_5, sz_6, sz_7, sz_8, true_and, eq_self]
      have hm := hn.each m (by rw [eq]; simp)
      refine ⟨m, "own", rfl, hm.few, ?_⟩
      refine forRun_map Row.d (all := ownRows m) (fun rp G' S' => (∃ b c d e f g, G' = [some (.dct (shelvesD ss)), some (.lst (el.map Make.d)), some (.lst (nw.map Make.d)), some (.dct (ownD (owns el))), some m.d, b, some (.ref p), c, d, e, f, g]) ∧ S' = S.put p (.dct (shelvesD (shelvesOver ss el pre ++ rp.filterMap (ownRow ss (owns el)))))) ⟨⟨_, _, _, _, _, _, rfl⟩, by simp⟩ ?_ ?_
      · rintro rp r rq G' S' K2 eq2 ⟨⟨b, c, d, e, f, g, rfl⟩, rfl⟩ k2
        refine ⟨trivial, ?_⟩
        obtain ⟨x, lo, hi, ft, rfl⟩ := own_of (m := m) (r := r) (by rw [eq2]; simp)
        have fr := fresh_own hn eq eq2
        have fs := shelvesOver_fst (ss := ss) (el := el) (ms := pre)
        have fr2 := ownRow_fst (ss := ss) (owned := owns el) (rs := rp)
        have nin : x ∉ (shelvesOver ss el pre ++ rp.filterMap (ownRow ss (owns el))).map (·.1) := by rw [List.map_append, fs, fr2]; exact fr
        have sz : ∀ v, (shelvesD (shelvesOver ss el pre ++ rp.filterMap (ownRow ss (owns el)) ++ [(x, v)])).length < sizeLine := fun v => by
          have l1 := owns_len hn eq
          have := List.length_filterMap_le (ownRow ss (owns el)) rp
          have := own_few hm eq2
          rw [← fs, List.length_map] at l1
          unfold shelvesD
          rw [List.length_map, List.length_append, List.length_append, List.length_singleton]; omega
        have sz0 : (shelvesD (shelvesOver ss el pre ++ rp.filterMap (ownRow ss (owns el)))).length < sizeLine := by
          have := sz 0
          unfold shelvesD at this ⊢
          rw [List.length_map] at this ⊢
          rw [List.length_append (bs := [(x, 0)]), List.length_singleton] at this
          omega
        simp only [tshelves_over_b0, Row.d, in_own, in_shelves, ix_shelves, setd_put, put_shelves nin, put_shelves2 nin, show keyB (.str x) = true from rfl, kind_shelves, sz0, sz, true_and, dSeq, dIfS, dTb, d2, d1, dVar, dC, dRet, dSet, dPut, dNext, dCB, dCons, dNil, dTup, dLst, dCall, dAnd, dOr, dNot, dAndV, dOrV, dNotV, dChain, dDrop, dIf, dgName, dgNil, dgCons, dgTup, dAsg, dPar, startD, wipeD, List.map_cons, List.map_nil, List.length_cons, List.length_nil, List.replicate, List.cons_append, List.nil_append, List.append_nil, List.getElem?_cons_zero, List.getElem?_cons_succ, Option.some.injEq, exists_eq_left', exists_eq_left, List.set_cons_zero, List.set_cons_succ, rEq_ii, rEq_ss, rNe_ss, rI1_ii, rI2_ii, DL.ix_lst, DL.ix_tup, atI_0, atI_1, atI_2, atI_3, atI_4, atI_5, some_ex, bl_ex, int_ex, len_lst, len_tup, mul_ii, add_ii, add_ll, add_tt, add_ss, decide_eq_true_eq, D.tup.injEq, D.lst.injEq, D.dct.injEq, D.str.injEq, D.int.injEq, D.bl.injEq, D.ref.injEq, Nat.zero_add, Nat.add_zero, Nat.sub_self, Nat.add_one_sub_one, Nat.reduceAdd, Nat.reduceSub, cons_ex, pair_ex, sz_0, sz_1, sz_2, sz_3, sz_4, sz_5, sz_6, sz_7, sz_8, true_and, eq_self, Bool.false_eq_true, if_false]
        have en : ∀ v, shelfN ss (owns el) x lo hi ft = v → K2 [some (.dct (shelvesD ss)), some (.lst (el.map Make.d)), some (.lst (nw.map Make.d)), some (.dct (ownD (owns el))), some m.d, b, some (.ref p), some (.str "own"), some (.str x), some (.int lo), some (.int hi), some (.int ft)] (S.put p (.dct (shelvesD (shelvesOver ss el pre ++ rp.filterMap (ownRow ss (owns el)) ++ [(x, v)])))) := fun v hv => by
          subst hv
          exact k2 _ _ ⟨⟨_, _, _, _, _, _, rfl⟩, by simp [ownRow]⟩
        unfold shelfN at en
        by_cases h1 : x ∈ owns el
        · cases h2 : ss.lookup x with
          | none =>
            rw [h2] at en
            simpa [h1, h2] using en _ rfl
          | some v =>
            rw [h2] at en
            by_cases h3 : lo ≤ v
            · by_cases h4 : v ≤ hi
              · simpa [h1, h2, h3, h4] using en _ rfl
              · simpa [h1, h2, h3, h4] using en _ rfl
            · simpa [h1, h2, h3] using en _ rfl
        · have e0 := en ft (by
            cases ss.lookup x with
            | none => rfl
            | some v => simp [h1])
          simpa [h1] using e0
      · rintro G' S' ⟨⟨b, c, d, e, f, g, rfl⟩, rfl⟩
        exact ⟨trivial, k _ _ ⟨⟨_, _, _, _, _, _, _, rfl⟩, by rw [shelvesOver_snoc, shelvesMake_eq]⟩⟩
    · rintro G' S' ⟨⟨a, b, c, d, e, f, g, rfl⟩, rfl⟩
      refine ⟨trivial, ?_⟩
      simp only [dSeq, dIfS, dTb, d2, d1, dVar, dC, dRet, dSet, dPut, dNext, dCB, dCons, dNil, dTup, dLst, dCall, dAnd, dOr, dNot, dAndV, dOrV, dNotV, dChain, dDrop, dIf, dgName, dgNil, dgCons, dgTup, dAsg, dPar, startD, wipeD, List.map_cons, List.map_nil, List.length_cons, List.length_nil, List.replicate, List.cons_append, List.nil_append, List.append_nil, List.getElem?_cons_zero, List.getElem?_cons_succ, Option.some.injEq, exists_eq_left', exists_eq_left, List.set_cons_zero, List.set_cons_succ, rEq_ii, rEq_ss, rNe_ss, rI1_ii, rI2_ii, DL.ix_lst, DL.ix_tup, atI_0, atI_1, atI_2, atI_3, atI_4, atI_5, some_ex, bl_ex, int_ex, len_lst, len_tup, mul_ii, add_ii, add_ll, add_tt, add_ss, decide_eq_true_eq, D.tup.injEq, D.lst.injEq, D.dct.injEq, D.str.injEq, D.int.injEq, D.bl.injEq, D.ref.injEq, Nat.zero_add, Nat.add_zero, Nat.sub_self, Nat.add_one_sub_one, Nat.reduceAdd, Nat.reduceSub, cons_ex, pair_ex, sz_0, sz_1, sz_2, sz_3, sz_4, sz_5, sz_6, sz_7, sz_8, true_and, eq_self]
      exact q p hp
theorem rd_gone_over {ds : List D} {S : Own} {R : DVK} {RX : DXK} (h : spgone_over ds S R RX) : tgone_over (En R) (startD Ngone_over ds) S := by
  obtain ⟨ks, ss, el, nw, rfl, he, hn, q⟩ := h
  simp only [tgone_over, tgone_over_s0, dSeq, dIfS, dTb, d2, d1, dVar, dC, dRet, dSet, dPut, dNext, dCB, dCons, dNil, dTup, dLst, dCall, dAnd, dOr, dNot, dAndV, dOrV, dNotV, dChain, dDrop, dIf, dgName, dgNil, dgCons, dgTup, dAsg, dPar, startD, wipeD, List.map_cons, List.map_nil, List.length_cons, List.length_nil, List.replicate, List.cons_append, List.nil_append, List.append_nil, List.getElem?_cons_zero, List.getElem?_cons_succ, Option.some.injEq, exists_eq_left', exists_eq_left, List.set_cons_zero, List.set_cons_succ, rEq_ii, rEq_ss, rNe_ss, rI1_ii, rI2_ii, DL.ix_lst, DL.ix_tup, atI_0, atI_1, atI_2, atI_3, atI_4, atI_5, some_ex, bl_ex, int_ex, len_lst, len_tup, mul_ii, add_ii, add_ll, add_tt, add_ss, decide_eq_true_eq, D.tup.injEq, D.lst.injEq, D.dct.injEq, D.str.injEq, D.int.injEq, D.bl.injEq, D.ref.injEq, Nat.zero_add, Nat.add_zero, Nat.sub_self, Nat.add_one_sub_one, Nat.reduceAdd, Nat.reduceSub, cons_ex, pair_ex, sz_0, sz_1, sz_2, sz_3, sz_4, sz_5, sz_6, sz_7, sz_8, true_and, eq_self]
  refine ⟨ks, el, nw, rfl, he, hn, fun p hp => ?_⟩
  refine ⟨ss, el, nw, rfl, he, hn, fun p2 hp2 => ?_⟩
  have ne : p2 ≠ p := fun e => by subst e; rw [Own.put_same] at hp2; cases hp2
  rw [Own.put_ne ne] at hp2
  exact q p p2 hp hp2 (fun e => ne e.symm)
end K83
namespace K83
open PySem PySem.Spec PyProof.Rows L2 DL
/-! ### the bag -/
theorem rd_law_bag {ds : List D} {S : Own} {R : DVK} {RX : DXK} (h : sp_law_bag ds S R RX) : t_law_bag (En R) (startD N_law_bag ds) S := by
  obtain ⟨ns, rfl, hl, q⟩ := h
  have hz := size1000
  simp only [t_law_bag, t_law_bag_s0, dLstO, dLc, diLst, dSl, dNoPart, dPart, rSlD, dYes, dSeq, dIfS, dTb, d2, d1, dVar, dC, dRet, dSet, dPut, dNext, dCB, dCons, dNil, dTup, dLst, dCall, dAnd, dOr, dNot, dAndV, dOrV, dNotV, dChain, dDrop, dIf, dgName, dgNil, dgCons, dgTup, dAsg, dPar, startD, wipeD, List.map_cons, List.map_nil, List.length_cons, List.length_nil, List.replicate, List.cons_append, List.nil_append, List.append_nil, List.getElem?_cons_zero, List.getElem?_cons_succ, Option.some.injEq, exists_eq_left', exists_eq_left, List.set_cons_zero, List.set_cons_succ, rEq_ii, rEq_ss, rNe_ss, rI1_ii, rI2_ii, DL.ix_lst, DL.ix_tup, atI_0, atI_1, atI_2, atI_3, atI_4, atI_5, some_ex, bl_ex, int_ex, len_lst, len_tup, mul_ii, add_ii, add_ll, add_tt, add_ss, decide_eq_true_eq, D.tup.injEq, D.lst.injEq, D.dct.injEq, D.str.injEq, D.int.injEq, D.bl.injEq, D.ref.injEq, Nat.zero_add, Nat.add_zero, Nat.sub_self, Nat.add_one_sub_one, Nat.reduceAdd, Nat.reduceSub, cons_ex, pair_ex, sz_0, sz_1, sz_2, sz_3, sz_4, sz_5, sz_6, sz_7, sz_8, true_and, eq_self]
  obtain ⟨ys, e, hy, _⟩ := cut_map D.int ns none (some 63)
  rw [e]
  refine lcRun_map D.int (fun i => some (.int (if i < 0 then -i else i))) (by omega) trivial (fun i _ K k => ?_) ?_
  · simpa only [rAbs, dYes, dSeq, dIfS, dTb, d2, d1, dVar, dC, dRet, dSet, dPut, dNext, dCB, dCons, dNil, dTup, dLst, dCall, dAnd, dOr, dNot, dAndV, dOrV, dNotV, dChain, dDrop, dIf, dgName, dgNil, dgCons, dgTup, dAsg, dPar, startD, wipeD, List.map_cons, List.map_nil, List.length_cons, List.length_nil, List.replicate, List.cons_append, List.nil_append, List.append_nil, List.getElem?_cons_zero, List.getElem?_cons_succ, Option.some.injEq, exists_eq_left', exists_eq_left, List.set_cons_zero, List.set_cons_succ, rEq_ii, rEq_ss, rNe_ss, rI1_ii, rI2_ii, DL.ix_lst, DL.ix_tup, atI_0, atI_1, atI_2, atI_3, atI_4, atI_5, some_ex, bl_ex, int_ex, len_lst, len_tup, mul_ii, add_ii, add_ll, add_tt, add_ss, decide_eq_true_eq, D.tup.injEq, D.lst.injEq, D.dct.injEq, D.str.injEq, D.int.injEq, D.bl.injEq, D.ref.injEq, Nat.zero_add, Nat.add_zero, Nat.sub_self, Nat.add_one_sub_one, Nat.reduceAdd, Nat.reduceSub, cons_ex, pair_ex, sz_0, sz_1, sz_2, sz_3, sz_4, sz_5, sz_6, sz_7, sz_8, true_and, eq_self, if_true] using k
  · intro p hp
    have e2 : (ys.filterMap fun i => some (D.int (if i < 0 then -i else i))) = (ys.map fun i => if i < 0 then -i else i).map D.int := by
      rw [List.map_map]; exact congrFun (List.filterMap_eq_map (f := fun i : Int => D.int (if i < 0 then -i else i))) ys
    exact q p _ hp ⟨0, 1234567891, 0, ys.map fun i => if i < 0 then -i else i, by rw [e2]; rfl⟩
/-! ### take -/
abbrev bagD (a sd p : Int) (cs : List Int) : List D := [.int a, .int sd, .int p, .lst (cs.map .int)]
theorem take_tail {b : Addr} {S : Own} {R : DVK} {m : Int} {c : Option D} {a sd : Int} {p : Nat} {cs : List Int} (m0 : 0 < m) (m1 : m < 1073741824)
    (q : ∀ v S', 0 ≤ v → v < m → Bag S' b → Keep S S' [b] → R (.int v) S') :
    dSeq t_law_take_s1 (dSeq t_law_take_s2 (dSeq t_law_take_s3 (dSeq t_law_take_s4 t_law_take_s5))) (En R) [some (.ref b), some (.int m), c, none, none, none] (S.put b (.lst (bagD a sd p cs))) := by
  have fin : ∀ (x a' sd' : Int) (p' : Nat), R (.int (x % m)) (S.put b (.lst (bagD a' sd' p' cs))) := fun x a' sd' p' =>
    q _ _ (Int.emod_nonneg _ (by omega)) (Int.emod_lt_of_pos _ m0) ⟨_, Own.put_same, a', sd', p', cs, rfl⟩ (keep_put (List.mem_singleton.mpr rfl))
  have first : ∀ x : Int, 0 ≤ x % 1000000007 ∧ x % 1000000007 < 1000000007 := fun x => ⟨Int.emod_nonneg _ (by decide), Int.emod_lt_of_pos _ (by decide)⟩
  simp only [t_law_take_s1, t_law_take_s2, t_law_take_s3, t_law_take_s4, t_law_take_s5, bagD, ix_put, set_put, ixn_0, CDiv, dSeq, dIfS, dTb, d2, d1, dVar, dC, dRet, dSet, dPut, dNext, dCB, dCons, dNil, dTup, dLst, dCall, dAnd, dOr, dNot, dAndV, dOrV, dNotV, dChain, dDrop, dIf, dgName, dgNil, dgCons, dgTup, dAsg, dPar, startD, wipeD, List.map_cons, List.map_nil, List.length_cons, List.length_nil, List.replicate, List.cons_append, List.nil_append, List.append_nil, List.getElem?_cons_zero, List.getElem?_cons_succ, Option.some.injEq, exists_eq_left', exists_eq_left, List.set_cons_zero, List.set_cons_succ, rEq_ii, rEq_ss, rNe_ss, rI1_ii, rI2_ii, DL.ix_lst, DL.ix_tup, atI_0, atI_1, atI_2, atI_3, atI_4, atI_5, some_ex, bl_ex, int_ex, len_lst, len_tup, mul_ii, add_ii, add_ll, add_tt, add_ss, decide_eq_true_eq, D.tup.injEq, D.lst.injEq, D.dct.injEq, D.str.injEq, D.int.injEq, D.bl.injEq, D.ref.injEq, Nat.zero_add, Nat.add_zero, Nat.sub_self, Nat.add_one_sub_one, Nat.reduceAdd, Nat.reduceSub, cons_ex, pair_ex, sz_0, sz_1, sz_2, sz_3, sz_4, sz_5, sz_6, sz_7, sz_8, true_and, eq_self]
  by_cases h : 0 < a
  · rw [if_pos h]; exact ⟨m0, ⟨m0, m1⟩, fin a _ _ _⟩
  · rw [if_neg h]
    refine ⟨mul_lt (by decide) (by decide), by decide, mul_lt ?_ ?_, by decide, mul_lt (by decide) (by decide), by decide, ?_⟩
    · have := first ((sd + 1) * 39373); omega
    · have := first ((sd + 1) * 39373); omega
    · by_cases h2 : 1000000 < m
      · rw [if_pos h2]; exact ⟨mul_lt (by decide) (by decide), m0, fin _ _ _ _⟩
      · rw [if_neg h2]; exact ⟨⟨by decide, by decide⟩, m0, fin _ _ _ _⟩
theorem rd_law_take {ds : List D} {S : Own} {R : DVK} {RX : DXK} (h : sp_law_take ds S R RX) : t_law_take (En R) (startD N_law_take ds) S := by
  obtain ⟨b, m, rfl, ⟨bag, hb, a, sd, p, cs, rfl⟩, m0, m1, q⟩ := h
  rw [← Own.put_self hb]
  have tail := fun c a sd p => take_tail (c := c) (a := a) (sd := sd) (p := p) (cs := cs) m0 m1 q
  unfold t_law_take
  generalize dSeq t_law_take_s1 _ = T at tail ⊢
  have hz := size1000
  simp only [t_law_take_s0, bagD, dAugS, ix_put, set_put, ixn_0, dSeq, dIfS, dTb, d2, d1, dVar, dC, dRet, dSet, dPut, dNext, dCB, dCons, dNil, dTup, dLst, dCall, dAnd, dOr, dNot, dAndV, dOrV, dNotV, dChain, dDrop, dIf, dgName, dgNil, dgCons, dgTup, dAsg, dPar, startD, wipeD, List.map_cons, List.map_nil, List.length_cons, List.length_nil, List.replicate, List.cons_append, List.nil_append, List.append_nil, List.getElem?_cons_zero, List.getElem?_cons_succ, Option.some.injEq, exists_eq_left', exists_eq_left, List.set_cons_zero, List.set_cons_succ, rEq_ii, rEq_ss, rNe_ss, rI1_ii, rI2_ii, DL.ix_lst, DL.ix_tup, atI_0, atI_1, atI_2, atI_3, atI_4, atI_5, some_ex, bl_ex, int_ex, len_lst, len_tup, mul_ii, add_ii, add_ll, add_tt, add_ss, decide_eq_true_eq, D.tup.injEq, D.lst.injEq, D.dct.injEq, D.str.injEq, D.int.injEq, D.bl.injEq, D.ref.injEq, Nat.zero_add, Nat.add_zero, Nat.sub_self, Nat.add_one_sub_one, Nat.reduceAdd, Nat.reduceSub, cons_ex, pair_ex, sz_0, sz_1, sz_2, sz_3, sz_4, sz_5, sz_6, sz_7, sz_8, true_and, eq_self] at tail ⊢
  by_cases h : a = 0
  · rw [if_pos h]
    have rest : ∀ z : Int, ∃ p_1 ds i j z_1, b = p_1 ∧ S.put b (SO.lst [D.int a, D.int sd, D.int ↑p, D.lst (List.map D.int cs)]) p_1 = some (SO.lst ds) ∧ (2 : Int) = i ∧ 0 ≤ i ∧ i = ((j : Nat) : Int) ∧ ds[j]? = some z_1 ∧
        rIAddD z_1 (D.int 1) (S.put b (SO.lst [D.int a, D.int sd, D.int ↑p, D.lst (List.map D.int cs)])) fun z2 S4 => rSetD (D.ref b) (D.int 2) z2 S4 fun S5 =>
          if 1000000000000000000 ≤ z then rSetD (D.ref b) (D.int 0) (.int z) S5 fun S4 => DL.rIxD (D.ref b) (D.int 1) S4 fun d S1 => rMulD d (D.int 48271) S1 fun d S1 => 0 < (2147483647 : Int) ∧ rAddD d (D.int (z % 2147483647)) S1 fun d S1 =>
              DL.rIxD (D.ref b) (D.int 2) S1 fun e S2 => rMulD (D.int 7919) e S2 fun e S2 => rAddD d e S2 fun d S1 => rModD d (D.int 2147483647) S1 fun z_2 S1 => rSetD (D.ref b) (D.int 1) z_2 S1 fun S4 => T (En R) [some (D.ref b), some (D.int m), some (.int z), none, none, none] S4
          else DL.rIxD (D.ref b) (D.int 1) S5 fun d S1 => rMulD d (D.int 48271) S1 fun d S1 => 0 < (2147483647 : Int) ∧ rAddD d (D.int (z % 2147483647)) S1 fun d S1 =>
              DL.rIxD (D.ref b) (D.int 2) S1 fun e S2 => rMulD (D.int 7919) e S2 fun e S2 => rAddD d e S2 fun d S1 => rModD d (D.int 2147483647) S1 fun z_2 S1 => rSetD (D.ref b) (D.int 1) z_2 S1 fun S4 => T (En R) [some (D.ref b), some (D.int m), some (.int z), none, none, none] S4 := fun z => by
      refine ⟨b, _, 2, 2, .int p, rfl, Own.put_same, rfl, by decide, rfl, rfl, ?_⟩
      have t1 : ∀ a' sd' : Int, T (En R) [some (D.ref b), some (D.int m), some (.int z), none, none, none] (S.put b (SO.lst [D.int a', D.int sd', D.int (↑p + 1), D.lst (List.map D.int cs)])) := fun a' sd' => tail _ a' sd' (p + 1)
      simp only [ix_put, set_put, ixn_0, ixn_1, ixn_2, dSeq, dIfS, dTb, d2, d1, dVar, dC, dRet, dSet, dPut, dNext, dCB, dCons, dNil, dTup, dLst, dCall, dAnd, dOr, dNot, dAndV, dOrV, dNotV, dChain, dDrop, dIf, dgName, dgNil, dgCons, dgTup, dAsg, dPar, startD, wipeD, List.map_cons, List.map_nil, List.length_cons, List.length_nil, List.replicate, List.cons_append, List.nil_append, List.append_nil, List.getElem?_cons_zero, List.getElem?_cons_succ, Option.some.injEq, exists_eq_left', exists_eq_left, List.set_cons_zero, List.set_cons_succ, rEq_ii, rEq_ss, rNe_ss, rI1_ii, rI2_ii, DL.ix_lst, DL.ix_tup, atI_0, atI_1, atI_2, atI_3, atI_4, atI_5, some_ex, bl_ex, int_ex, len_lst, len_tup, mul_ii, add_ii, add_ll, add_tt, add_ss, decide_eq_true_eq, D.tup.injEq, D.lst.injEq, D.dct.injEq, D.str.injEq, D.int.injEq, D.bl.injEq, D.ref.injEq, Nat.zero_add, Nat.add_zero, Nat.sub_self, Nat.add_one_sub_one, Nat.reduceAdd, Nat.reduceSub, cons_ex, pair_ex, sz_0, sz_1, sz_2, sz_3, sz_4, sz_5, sz_6, sz_7, sz_8, true_and, eq_self]
      by_cases hz' : 1000000000000000000 ≤ z
      · rw [if_pos hz']; exact ⟨mul_lt (by decide) (by decide), by decide, .inl ⟨by decide, by decide⟩, by decide, t1 _ _⟩
      · rw [if_neg hz']; exact ⟨mul_lt (by decide) (by decide), by decide, .inl ⟨by decide, by decide⟩, by decide, t1 _ _⟩
    by_cases h2 : (p : Int) < ((cs.map D.int).length : Nat)
    · rw [if_pos h2]
      rw [List.length_map] at h2
      have hp : p < cs.length := by exact_mod_cast h2
      refine ⟨.int cs[p], DL.atI_nat (by simp [hp]), ?_⟩
      simpa only [dSeq, dIfS, dTb, d2, d1, dVar, dC, dRet, dSet, dPut, dNext, dCB, dCons, dNil, dTup, dLst, dCall, dAnd, dOr, dNot, dAndV, dOrV, dNotV, dChain, dDrop, dIf, dgName, dgNil, dgCons, dgTup, dAsg, dPar, startD, wipeD, List.map_cons, List.map_nil, List.length_cons, List.length_nil, List.replicate, List.cons_append, List.nil_append, List.append_nil, List.getElem?_cons_zero, List.getElem?_cons_succ, Option.some.injEq, exists_eq_left', exists_eq_left, List.set_cons_zero, List.set_cons_succ, rEq_ii, rEq_ss, rNe_ss, rI1_ii, rI2_ii, DL.ix_lst, DL.ix_tup, atI_0, atI_1, atI_2, atI_3, atI_4, atI_5, some_ex, bl_ex, int_ex, len_lst, len_tup, mul_ii, add_ii, add_ll, add_tt, add_ss, decide_eq_true_eq, D.tup.injEq, D.lst.injEq, D.dct.injEq, D.str.injEq, D.int.injEq, D.bl.injEq, D.ref.injEq, Nat.zero_add, Nat.add_zero, Nat.sub_self, Nat.add_one_sub_one, Nat.reduceAdd, Nat.reduceSub, cons_ex, pair_ex, sz_0, sz_1, sz_2, sz_3, sz_4, sz_5, sz_6, sz_7, sz_8, true_and, eq_self] using rest cs[p]
    · rw [if_neg h2]; exact rest 0
  · rw [if_neg h]; exact tail _ _ _ _
/-! ### rows, names -/
theorem take_step {b : Addr} {m : Int} {S : Own} {R : DVK} (hb : Bag S b) (m0 : 0 < m) (m1 : m < 1073741824) (q : ∀ v S', 0 ≤ v → v < m → Bag S' b → Keep S S' [b] → R (.int v) S') : sp_law_take [.ref b, .int m] S R fun _ _ _ => False :=
  ⟨b, m, rfl, hb, m0, m1, q⟩
theorem rd_law_row {ds : List D} {S : Own} {R : DVK} {RX : DXK} (h : sp_law_row ds S R RX) : t_law_row (En R) (startD N_law_row ds) S := by
  obtain ⟨b, w, x, rfl, hw, hb, q⟩ := h
  simp only [t_law_row, t_law_row_s0, t_law_row_s1, t_law_row_s2, t_law_row_s3, dSeq, dIfS, dTb, d2, d1, dVar, dC, dRet, dSet, dPut, dNext, dCB, dCons, dNil, dTup, dLst, dCall, dAnd, dOr, dNot, dAndV, dOrV, dNotV, dChain, dDrop, dIf, dgName, dgNil, dgCons, dgTup, dAsg, dPar, startD, wipeD, List.map_cons, List.map_nil, List.length_cons, List.length_nil, List.replicate, List.cons_append, List.nil_append, List.append_nil, List.getElem?_cons_zero, List.getElem?_cons_succ, Option.some.injEq, exists_eq_left', exists_eq_left, List.set_cons_zero, List.set_cons_succ, rEq_ii, rEq_ss, rNe_ss, rI1_ii, rI2_ii, DL.ix_lst, DL.ix_tup, atI_0, atI_1, atI_2, atI_3, atI_4, atI_5, some_ex, bl_ex, int_ex, len_lst, len_tup, mul_ii, add_ii, add_ll, add_tt, add_ss, decide_eq_true_eq, D.tup.injEq, D.lst.injEq, D.dct.injEq, D.str.injEq, D.int.injEq, D.bl.injEq, D.ref.injEq, Nat.zero_add, Nat.add_zero, Nat.sub_self, Nat.add_one_sub_one, Nat.reduceAdd, Nat.reduceSub, cons_ex, pair_ex, sz_0, sz_1, sz_2, sz_3, sz_4, sz_5, sz_6, sz_7, sz_8, true_and, eq_self]
  refine take_step hb (by decide) (by decide) fun v1 S1 h0 h1 b1 k1 => ?_
  simp only [dSeq, dIfS, dTb, d2, d1, dVar, dC, dRet, dSet, dPut, dNext, dCB, dCons, dNil, dTup, dLst, dCall, dAnd, dOr, dNot, dAndV, dOrV, dNotV, dChain, dDrop, dIf, dgName, dgNil, dgCons, dgTup, dAsg, dPar, startD, wipeD, List.map_cons, List.map_nil, List.length_cons, List.length_nil, List.replicate, List.cons_append, List.nil_append, List.append_nil, List.getElem?_cons_zero, List.getElem?_cons_succ, Option.some.injEq, exists_eq_left', exists_eq_left, List.set_cons_zero, List.set_cons_succ, rEq_ii, rEq_ss, rNe_ss, rI1_ii, rI2_ii, DL.ix_lst, DL.ix_tup, atI_0, atI_1, atI_2, atI_3, atI_4, atI_5, some_ex, bl_ex, int_ex, len_lst, len_tup, mul_ii, add_ii, add_ll, add_tt, add_ss, decide_eq_true_eq, D.tup.injEq, D.lst.injEq, D.dct.injEq, D.str.injEq, D.int.injEq, D.bl.injEq, D.ref.injEq, Nat.zero_add, Nat.add_zero, Nat.sub_self, Nat.add_one_sub_one, Nat.reduceAdd, Nat.reduceSub, cons_ex, pair_ex, sz_0, sz_1, sz_2, sz_3, sz_4, sz_5, sz_6, sz_7, sz_8, true_and, eq_self]
  refine take_step b1 (by decide) (by decide) fun v2 S2 h2 h3 b2 k2 => ?_
  simp only [dSeq, dIfS, dTb, d2, d1, dVar, dC, dRet, dSet, dPut, dNext, dCB, dCons, dNil, dTup, dLst, dCall, dAnd, dOr, dNot, dAndV, dOrV, dNotV, dChain, dDrop, dIf, dgName, dgNil, dgCons, dgTup, dAsg, dPar, startD, wipeD, List.map_cons, List.map_nil, List.length_cons, List.length_nil, List.replicate, List.cons_append, List.nil_append, List.append_nil, List.getElem?_cons_zero, List.getElem?_cons_succ, Option.some.injEq, exists_eq_left', exists_eq_left, List.set_cons_zero, List.set_cons_succ, rEq_ii, rEq_ss, rNe_ss, rI1_ii, rI2_ii, DL.ix_lst, DL.ix_tup, atI_0, atI_1, atI_2, atI_3, atI_4, atI_5, some_ex, bl_ex, int_ex, len_lst, len_tup, mul_ii, add_ii, add_ll, add_tt, add_ss, decide_eq_true_eq, D.tup.injEq, D.lst.injEq, D.dct.injEq, D.str.injEq, D.int.injEq, D.bl.injEq, D.ref.injEq, Nat.zero_add, Nat.add_zero, Nat.sub_self, Nat.add_one_sub_one, Nat.reduceAdd, Nat.reduceSub, cons_ex, pair_ex, sz_0, sz_1, sz_2, sz_3, sz_4, sz_5, sz_6, sz_7, sz_8, true_and, eq_self]
  refine take_step b2 (by omega) (by omega) fun v3 S3 h4 h5 b3 k3 => ?_
  simp only [dSeq, dIfS, dTb, d2, d1, dVar, dC, dRet, dSet, dPut, dNext, dCB, dCons, dNil, dTup, dLst, dCall, dAnd, dOr, dNot, dAndV, dOrV, dNotV, dChain, dDrop, dIf, dgName, dgNil, dgCons, dgTup, dAsg, dPar, startD, wipeD, List.map_cons, List.map_nil, List.length_cons, List.length_nil, List.replicate, List.cons_append, List.nil_append, List.append_nil, List.getElem?_cons_zero, List.getElem?_cons_succ, Option.some.injEq, exists_eq_left', exists_eq_left, List.set_cons_zero, List.set_cons_succ, rEq_ii, rEq_ss, rNe_ss, rI1_ii, rI2_ii, DL.ix_lst, DL.ix_tup, atI_0, atI_1, atI_2, atI_3, atI_4, atI_5, some_ex, bl_ex, int_ex, len_lst, len_tup, mul_ii, add_ii, add_ll, add_tt, add_ss, decide_eq_true_eq, D.tup.injEq, D.lst.injEq, D.dct.injEq, D.str.injEq, D.int.injEq, D.bl.injEq, D.ref.injEq, Nat.zero_add, Nat.add_zero, Nat.sub_self, Nat.add_one_sub_one, Nat.reduceAdd, Nat.reduceSub, cons_ex, pair_ex, sz_0, sz_1, sz_2, sz_3, sz_4, sz_5, sz_6, sz_7, sz_8, true_and, eq_self]
  refine take_step b3 (by decide) (by decide) fun v4 S4 h6 h7 b4 k4 => ?_
  simp only [rIntC, dSeq, dIfS, dTb, d2, d1, dVar, dC, dRet, dSet, dPut, dNext, dCB, dCons, dNil, dTup, dLst, dCall, dAnd, dOr, dNot, dAndV, dOrV, dNotV, dChain, dDrop, dIf, dgName, dgNil, dgCons, dgTup, dAsg, dPar, startD, wipeD, List.map_cons, List.map_nil, List.length_cons, List.length_nil, List.replicate, List.cons_append, List.nil_append, List.append_nil, List.getElem?_cons_zero, List.getElem?_cons_succ, Option.some.injEq, exists_eq_left', exists_eq_left, List.set_cons_zero, List.set_cons_succ, rEq_ii, rEq_ss, rNe_ss, rI1_ii, rI2_ii, DL.ix_lst, DL.ix_tup, atI_0, atI_1, atI_2, atI_3, atI_4, atI_5, some_ex, bl_ex, int_ex, len_lst, len_tup, mul_ii, add_ii, add_ll, add_tt, add_ss, decide_eq_true_eq, D.tup.injEq, D.lst.injEq, D.dct.injEq, D.str.injEq, D.int.injEq, D.bl.injEq, D.ref.injEq, Nat.zero_add, Nat.add_zero, Nat.sub_self, Nat.add_one_sub_one, Nat.reduceAdd, Nat.reduceSub, cons_ex, pair_ex, sz_0, sz_1, sz_2, sz_3, sz_4, sz_5, sz_6, sz_7, sz_8, true_and, eq_self]
  have kk := (k1.trans k2).trans (k3.trans k4)
  have e4 : ∃ c, atI [D.str "kept", D.str "anew"] v4 = some (.str c) := by
    have : v4 = 0 ∨ v4 = 1 := by omega
    rcases this with rfl | rfl
    · exact ⟨_, atI_0⟩
    · exact ⟨_, atI_1⟩
  obtain ⟨c, ec⟩ := e4
  refine ⟨_, ec, ?_⟩
  rcases hw with rfl | rfl
  · simp only [decide_true, if_true, dSeq, dIfS, dTb, d2, d1, dVar, dC, dRet, dSet, dPut, dNext, dCB, dCons, dNil, dTup, dLst, dCall, dAnd, dOr, dNot, dAndV, dOrV, dNotV, dChain, dDrop, dIf, dgName, dgNil, dgCons, dgTup, dAsg, dPar, startD, wipeD, List.map_cons, List.map_nil, List.length_cons, List.length_nil, List.replicate, List.cons_append, List.nil_append, List.append_nil, List.getElem?_cons_zero, List.getElem?_cons_succ, Option.some.injEq, exists_eq_left', exists_eq_left, List.set_cons_zero, List.set_cons_succ, rEq_ii, rEq_ss, rNe_ss, rI1_ii, rI2_ii, DL.ix_lst, DL.ix_tup, atI_0, atI_1, atI_2, atI_3, atI_4, atI_5, some_ex, bl_ex, int_ex, len_lst, len_tup, mul_ii, add_ii, add_ll, add_tt, add_ss, decide_eq_true_eq, D.tup.injEq, D.lst.injEq, D.dct.injEq, D.str.injEq, D.int.injEq, D.bl.injEq, D.ref.injEq, Nat.zero_add, Nat.add_zero, Nat.sub_self, Nat.add_one_sub_one, Nat.reduceAdd, Nat.reduceSub, cons_ex, pair_ex, sz_0, sz_1, sz_2, sz_3, sz_4, sz_5, sz_6, sz_7, sz_8, true_and, eq_self]
    exact q (.key x _ _ _ c) S4 ⟨rfl, rfl, by omega, by omega⟩ b4 kk
  · have no : ¬ Str.ofString "own" = Str.ofString "key" := by decide
    simp only [if_neg no, dSeq, dIfS, dTb, d2, d1, dVar, dC, dRet, dSet, dPut, dNext, dCB, dCons, dNil, dTup, dLst, dCall, dAnd, dOr, dNot, dAndV, dOrV, dNotV, dChain, dDrop, dIf, dgName, dgNil, dgCons, dgTup, dAsg, dPar, startD, wipeD, List.map_cons, List.map_nil, List.length_cons, List.length_nil, List.replicate, List.cons_append, List.nil_append, List.append_nil, List.getElem?_cons_zero, List.getElem?_cons_succ, Option.some.injEq, exists_eq_left', exists_eq_left, List.set_cons_zero, List.set_cons_succ, rEq_ii, rEq_ss, rNe_ss, rI1_ii, rI2_ii, DL.ix_lst, DL.ix_tup, atI_0, atI_1, atI_2, atI_3, atI_4, atI_5, some_ex, bl_ex, int_ex, len_lst, len_tup, mul_ii, add_ii, add_ll, add_tt, add_ss, decide_eq_true_eq, D.tup.injEq, D.lst.injEq, D.dct.injEq, D.str.injEq, D.int.injEq, D.bl.injEq, D.ref.injEq, Nat.zero_add, Nat.add_zero, Nat.sub_self, Nat.add_one_sub_one, Nat.reduceAdd, Nat.reduceSub, cons_ex, pair_ex, sz_0, sz_1, sz_2, sz_3, sz_4, sz_5, sz_6, sz_7, sz_8, true_and, eq_self]
    exact q (.own x _ _ _) S4 ⟨rfl, rfl, by omega, by omega⟩ b4 kk
abbrev letters : Str := "abcdefghijklmnopqrstuvwxyz"
theorem letters_at : ∀ n, n < 26 → letters.cps.toList[n]? = some (97 + n) := by decide +kernel
theorem letter {v : Int} {S : Own} {R : DVK} (h0 : 0 ≤ v) (h1 : v < 26) (q : R (.str ⟨#[97 + v.toNat]⟩) S) : DL.rIxD (.str letters) (.int v) S R := by
  refine ⟨v, 97 + v.toNat, rfl, by decide +kernel, ?_, q⟩
  have e : v = (v.toNat : Int) := by omega
  have := letters_at v.toNat (by omega)
  rw [e]
  exact L2.atI_nat this
def nameAt (base : Str) (at' tn : Int) (k : Nat) : Str := cutS base none (some at') ++ ⟨#[97 + ((tn + 3 * (0 + (k : Int))) % 26).toNat]⟩ ++ cutS base (some (at' + 1)) none
theorem nameAt_inj {base : Str} {at' tn : Int} {k l : Nat} (hk : k < 16) (hl : l < 16) (e : nameAt base at' tn k = nameAt base at' tn l) : k = l := by
  unfold nameAt at e
  have e1 := congrArg (fun z : Str => z.cps.toList) e
  have e2 : ((cutS base none (some at')).cps ++ #[97 + ((tn + 3 * (0 + (k : Int))) % 26).toNat] ++ (cutS base (some (at' + 1)) none).cps).toList = ((cutS base none (some at')).cps ++ #[97 + ((tn + 3 * (0 + (l : Int))) % 26).toNat] ++ (cutS base (some (at' + 1)) none).cps).toList := e1
  rw [Array.toList_append, Array.toList_append, Array.toList_append, Array.toList_append] at e2
  have e3 := List.append_cancel_left (List.append_cancel_right e2)
  have e4 : 97 + ((tn + 3 * (0 + (k : Int))) % 26).toNat = 97 + ((tn + 3 * (0 + (l : Int))) % 26).toNat := by simpa using e3
  omega
theorem names_nodup (base : Str) (at' tn : Int) : ((List.range 16).map (nameAt base at' tn)).Nodup := by
  unfold List.Nodup
  rw [List.pairwise_map]
  refine List.Pairwise.imp_of_mem (fun {a b} ha hb h e => h (nameAt_inj (List.mem_range.mp ha) (List.mem_range.mp hb) e)) List.nodup_range
theorem sum_ones : ∀ ys : List Str, (∀ y ∈ ys, y.length = 1) → (ys.map (·.length)).sum = ys.length
  | [], _ => rfl
  | y :: ys, h => by rw [List.map_cons, List.sum_cons, sum_ones ys fun z m => h z (.tail _ m), h y (.head _), List.length_cons]; omega
theorem rd_law_names {ds : List D} {S : Own} {R : DVK} {RX : DXK} (h : sp_law_names ds S R RX) : t_law_names (En R) (startD N_law_names ds) S := by
  obtain ⟨b, rfl, hb, q⟩ := h
  have hz := size1000
  simp only [t_law_names, t_law_names_s0, t_law_names_s1, t_law_names_s2, t_law_names_s3, t_law_names_s4, dLc, diRng1, dBM, dYes, dSl, dNoPart, dPart, dSeq, dIfS, dTb, d2, d1, dVar, dC, dRet, dSet, dPut, dNext, dCB, dCons, dNil, dTup, dLst, dCall, dAnd, dOr, dNot, dAndV, dOrV, dNotV, dChain, dDrop, dIf, dgName, dgNil, dgCons, dgTup, dAsg, dPar, startD, wipeD, List.map_cons, List.map_nil, List.length_cons, List.length_nil, List.replicate, List.cons_append, List.nil_append, List.append_nil, List.getElem?_cons_zero, List.getElem?_cons_succ, Option.some.injEq, exists_eq_left', exists_eq_left, List.set_cons_zero, List.set_cons_succ, rEq_ii, rEq_ss, rNe_ss, rI1_ii, rI2_ii, DL.ix_lst, DL.ix_tup, atI_0, atI_1, atI_2, atI_3, atI_4, atI_5, some_ex, bl_ex, int_ex, len_lst, len_tup, mul_ii, add_ii, add_ll, add_tt, add_ss, decide_eq_true_eq, D.tup.injEq, D.lst.injEq, D.dct.injEq, D.str.injEq, D.int.injEq, D.bl.injEq, D.ref.injEq, Nat.zero_add, Nat.add_zero, Nat.sub_self, Nat.add_one_sub_one, Nat.reduceAdd, Nat.reduceSub, cons_ex, pair_ex, sz_0, sz_1, sz_2, sz_3, sz_4, sz_5, sz_6, sz_7, sz_8, true_and, eq_self]
  refine take_step hb (by decide) (by decide) fun v1 S1 h0 h1 b1 k1 => ?_
  simp only [dSeq, dIfS, dTb, d2, d1, dVar, dC, dRet, dSet, dPut, dNext, dCB, dCons, dNil, dTup, dLst, dCall, dAnd, dOr, dNot, dAndV, dOrV, dNotV, dChain, dDrop, dIf, dgName, dgNil, dgCons, dgTup, dAsg, dPar, startD, wipeD, List.map_cons, List.map_nil, List.length_cons, List.length_nil, List.replicate, List.cons_append, List.nil_append, List.append_nil, List.getElem?_cons_zero, List.getElem?_cons_succ, Option.some.injEq, exists_eq_left', exists_eq_left, List.set_cons_zero, List.set_cons_succ, rEq_ii, rEq_ss, rNe_ss, rI1_ii, rI2_ii, DL.ix_lst, DL.ix_tup, atI_0, atI_1, atI_2, atI_3, atI_4, atI_5, some_ex, bl_ex, int_ex, len_lst, len_tup, mul_ii, add_ii, add_ll, add_tt, add_ss, decide_eq_true_eq, D.tup.injEq, D.lst.injEq, D.dct.injEq, D.str.injEq, D.int.injEq, D.bl.injEq, D.ref.injEq, Nat.zero_add, Nat.add_zero, Nat.sub_self, Nat.add_one_sub_one, Nat.reduceAdd, Nat.reduceSub, cons_ex, pair_ex, sz_0, sz_1, sz_2, sz_3, sz_4, sz_5, sz_6, sz_7, sz_8, true_and, eq_self]
  refine ⟨rfl, _, rfl, by omega, by omega, ?_⟩
  refine lcRun_each (fun (i : Nat) => D.int (0 + (i : Int))) (fun pre acc S' => (∃ ys : List Str, acc = ys.map D.str ∧ (∀ y ∈ ys, y.length = 1) ∧ ys.length ≤ pre.length) ∧ Bag S' b ∧ Keep S S' [b]) ⟨⟨[], rfl, (fun y h => nomatch h), Nat.le_refl _⟩, b1, k1⟩ (by simp; omega) ?_ ?_
  · rintro pre x post acc S2 K _ ⟨⟨ys, rfl, hy, hl⟩, b2, k2⟩ k _
    refine ⟨trivial, ?_⟩
    simp only [dYes, dSeq, dIfS, dTb, d2, d1, dVar, dC, dRet, dSet, dPut, dNext, dCB, dCons, dNil, dTup, dLst, dCall, dAnd, dOr, dNot, dAndV, dOrV, dNotV, dChain, dDrop, dIf, dgName, dgNil, dgCons, dgTup, dAsg, dPar, startD, wipeD, List.map_cons, List.map_nil, List.length_cons, List.length_nil, List.replicate, List.cons_append, List.nil_append, List.append_nil, List.getElem?_cons_zero, List.getElem?_cons_succ, Option.some.injEq, exists_eq_left', exists_eq_left, List.set_cons_zero, List.set_cons_succ, rEq_ii, rEq_ss, rNe_ss, rI1_ii, rI2_ii, DL.ix_lst, DL.ix_tup, atI_0, atI_1, atI_2, atI_3, atI_4, atI_5, some_ex, bl_ex, int_ex, len_lst, len_tup, mul_ii, add_ii, add_ll, add_tt, add_ss, decide_eq_true_eq, D.tup.injEq, D.lst.injEq, D.dct.injEq, D.str.injEq, D.int.injEq, D.bl.injEq, D.ref.injEq, Nat.zero_add, Nat.add_zero, Nat.sub_self, Nat.add_one_sub_one, Nat.reduceAdd, Nat.reduceSub, cons_ex, pair_ex, sz_0, sz_1, sz_2, sz_3, sz_4, sz_5, sz_6, sz_7, sz_8, true_and, eq_self, if_true]
    refine take_step b2 (by decide) (by decide) fun v2 S3 h2 h3 b3 k3 => ?_
    refine letter h2 h3 ?_
    refine k _ _ ⟨⟨ys ++ [⟨#[97 + v2.toNat]⟩], by simp, fun y m => ?_, by simp; omega⟩, b3, k2.trans k3⟩
    rcases List.mem_append.mp m with m | m
    · exact hy y m
    · rw [List.mem_singleton.mp m]; rfl
  · rintro acc S2 ⟨⟨ys, rfl, hy, hl⟩, b2, k2⟩
    rw [List.length_range] at hl
    refine ⟨trivial, ?_⟩
    have jl := PySem.W.KT.join_ones ys hy
    have sm : (ys.map (·.length)).sum ≤ 8 := by rw [sum_ones ys hy]; omega
    refine ⟨_, _, _, ys, rfl, rfl, rfl, rfl, ?_, ?_⟩
    · have : (Str.ofString "").length = 0 := by decide +kernel
      rw [this]; omega
    generalize eb : Txt.join (Str.ofString "") ys = base at jl
    refine take_step b2 (by omega) (by omega) fun v2 S3 h2 h3 b3 k3 => ?_
    refine take_step b3 (by decide) (by decide) fun v3 S4 h4 h5 b4 k4 => ?_
    have bl : base.length ≤ 8 := by omega
    have l1 : (cutS base none (some v2)).length ≤ 8 := Nat.le_trans (cutS_length _ _ _) bl
    have l2 : (cutS base (some (v2 + 1)) none).length ≤ 8 := Nat.le_trans (cutS_length _ _ _) bl
    have kk := (k2.trans k3).trans k4
    refine ⟨_, rfl, by decide, by decide, ?_⟩
    refine lcRun_map (fun (i : Nat) => D.int (0 + (i : Int))) (fun i => some (.str (nameAt base v2 v3 i))) (by simp; omega) trivial (fun i _ K k => ?_) ?_
    · simp only [rSlD, dYes, dSl, dNoPart, dPart, dSeq, dIfS, dTb, d2, d1, dVar, dC, dRet, dSet, dPut, dNext, dCB, dCons, dNil, dTup, dLst, dCall, dAnd, dOr, dNot, dAndV, dOrV, dNotV, dChain, dDrop, dIf, dgName, dgNil, dgCons, dgTup, dAsg, dPar, startD, wipeD, List.map_cons, List.map_nil, List.length_cons, List.length_nil, List.replicate, List.cons_append, List.nil_append, List.append_nil, List.getElem?_cons_zero, List.getElem?_cons_succ, Option.some.injEq, exists_eq_left', exists_eq_left, List.set_cons_zero, List.set_cons_succ, rEq_ii, rEq_ss, rNe_ss, rI1_ii, rI2_ii, DL.ix_lst, DL.ix_tup, atI_0, atI_1, atI_2, atI_3, atI_4, atI_5, some_ex, bl_ex, int_ex, len_lst, len_tup, mul_ii, add_ii, add_ll, add_tt, add_ss, decide_eq_true_eq, D.tup.injEq, D.lst.injEq, D.dct.injEq, D.str.injEq, D.int.injEq, D.bl.injEq, D.ref.injEq, Nat.zero_add, Nat.add_zero, Nat.sub_self, Nat.add_one_sub_one, Nat.reduceAdd, Nat.reduceSub, cons_ex, pair_ex, sz_0, sz_1, sz_2, sz_3, sz_4, sz_5, sz_6, sz_7, sz_8, true_and, eq_self, if_true]
      refine ⟨by omega, .inl ⟨by decide, by decide⟩, by decide, ?_⟩
      refine letter (Int.emod_nonneg _ (by decide)) (Int.emod_lt_of_pos _ (by decide)) ?_
      have la : ∀ (x : Str) (c : Nat), (x ++ (⟨#[c]⟩ : Str)).length = x.length + 1 := fun x c => by
        show (x.cps ++ #[c]).size = x.cps.size + 1
        simp
      have lo : ∀ c : Nat, (⟨#[c]⟩ : Str).length = 1 := fun c => rfl
      simp only [add_ss, la, lo]
      exact ⟨by omega, by omega, by omega, k⟩
    · have : ((List.range (16 : Int).toNat).filterMap fun i => some (D.str (nameAt base v2 v3 i))) = ((List.range 16).map (nameAt base v2 v3)).map D.str := by
        rw [List.map_map]; exact congrFun (List.filterMap_eq_map (f := fun i : Nat => D.str (nameAt base v2 v3 i))) _
      rw [this]
      exact q _ S4 (by simp) (names_nodup _ _ _) b4 kk
end K83
namespace K83
open PySem PySem.Spec PyProof.Rows L2 DL
/-! ### makes in a dict -/
theorem look_makes {x : Str} : ∀ {ms : List Make}, lookD (makesD ms) (.str x) = (ms.find? fun m => x == m.part).map Make.d
  | [] => rfl
  | m :: r => by
    have ih := look_makes (x := x) (ms := r)
    unfold lookD makesD at ih ⊢
    rw [List.map_cons, List.find?_cons, List.find?_cons]
    simp only [eqv_str]
    cases (x == m.part) with
    | true => rfl
    | false => exact ih
theorem find_makes {ms : List Make} (h : (ms.map (·.part)).Nodup) {m : Make} (hm : m ∈ ms) : (ms.find? fun e => m.part == e.part) = some m := by
  induction ms with
  | nil => cases hm
  | cons a r ih =>
    rw [List.find?_cons]
    rcases List.mem_cons.mp hm with rfl | hm'
    · simp
    · rw [List.map_cons, List.nodup_cons] at h
      have : ¬ m.part = a.part := fun e => h.1 (by rw [← e]; exact List.mem_map_of_mem hm')
      rw [show (m.part == a.part) = false from by simpa using this]
      exact ih h.2 hm'
theorem kind_makes {ms : List Make} {x : Str} : kindD (makesD ms) (.str x) = true := by
  unfold kindD makesD
  rw [List.all_map, List.all_eq_true]
  intro p _; rfl
theorem makes_keys {ms : List Make} : (makesD ms).map (·.1) = ms.map fun m => D.str m.part := by unfold makesD; rw [List.map_map]; rfl
theorem ix_mk {ms : List Make} {m : Make} {p : Addr} {S : Own} {R : DVK} (h : dicOf S (.ref p) = some (makesD ms)) (hn : (ms.map (·.part)).Nodup) (hm : m ∈ ms) (q : R m.d S) : DL.rIxD (.ref p) (.str m.part) S R := by
  rw [ix_dic h, look_makes, find_makes hn hm]
  exact ⟨rfl, kind_makes, _, rfl, q⟩
abbrev noRows (m : Make) : List Row := m.rows.filter fun r => !decide (r.word = "on")
theorem kn_no {m : Make} : (noRows m).filterMap kn = keyNames m := by
  rw [keyNames_eq, List.filterMap_filter]
  congr 1; funext r; cases r <;> rfl
theorem on_no {m : Make} : (noRows m).filterMap on' = ownNames m := by
  rw [ownNames_eq, List.filterMap_filter]
  congr 1; funext r; cases r <;> rfl
theorem no_of {m : Make} {r : Row} (h : r ∈ noRows m) : (∃ x lo hi f c, r = .key x lo hi f c) ∨ ∃ x lo hi f, r = .own x lo hi f := by
  have := (List.mem_filter.mp h).2
  cases r with
  | key x lo hi f c => exact .inl ⟨x, lo, hi, f, c, rfl⟩
  | own x lo hi f => exact .inr ⟨x, lo, hi, f, rfl⟩
  | on n => exact absurd this (show ¬ (!decide (("on" : Str) = "on")) = true by decide)
theorem fresh_spot' {ms : List Make} (h : MsOk ms) {pre post : List Make} {m : Make} (e : ms = pre ++ m :: post) {l rp rq : List Row} (el : l.filterMap kn = keyNames m) {x : Str} {lo hi f : Int} {c : Str} (e2 : l = rp ++ .key x lo hi f c :: rq) : (m.part, x) ∉ spots pre ++ (rp.filterMap kn).map fun y => (m.part, y) := by
  intro hm
  rcases List.mem_append.mp hm with hm | hm
  · have h1 := spots_part hm
    have h2 := h.parts
    rw [e, List.map_append, List.map_cons, List.nodup_append] at h2
    exact h2.2.2 _ h1 _ (.head _) rfl
  · obtain ⟨y, hy, ey⟩ := List.mem_map.mp hm
    cases ey
    have h2 := (h.each m (by rw [e]; simp)).keys
    rw [← el, e2, List.filterMap_append, List.nodup_append] at h2
    exact h2.2.2 _ hy _ (by simp [kn]) rfl
theorem fresh_own' {ms : List Make} (h : MsOk ms) {pre post : List Make} {m : Make} (e : ms = pre ++ m :: post) {l rp rq : List Row} (el : l.filterMap on' = ownNames m) {x : Str} {lo hi f : Int} (e2 : l = rp ++ .own x lo hi f :: rq) : x ∉ owns pre ++ rp.filterMap on' := by
  intro hm
  have h2 := h.owns
  have e3 : owns ms = (owns pre ++ rp.filterMap on') ++ (x :: rq.filterMap on') ++ owns post := by
    rw [e, show pre ++ m :: post = (pre ++ [m]) ++ post from by simp]
    unfold owns
    rw [List.flatMap_append, List.flatMap_append, List.flatMap_singleton, ← el, e2, List.filterMap_append]
    simp [on']
  rw [e3, List.nodup_append] at h2
  have h3 := h2.1
  rw [List.nodup_append] at h3
  exact h3.2.2 _ hm _ (.head _) rfl
theorem spots_snoc {pre : List Make} {m : Make} : spots (pre ++ [m]) = spots pre ++ spotsOf m := by unfold spots; simp
theorem four_ints (a b c d : Int) {v : Int} (h0 : 0 ≤ v) (h1 : v < 4) : ∃ n, atI [D.int a, .int b, .int c, .int d] v = some (.int n) := by
  have : v = 0 ∨ v = 1 ∨ v = 2 ∨ v = 3 := by omega
  rcases this with rfl | rfl | rfl | rfl
  · exact ⟨_, atI_0⟩
  · exact ⟨_, atI_1⟩
  · exact ⟨_, atI_2⟩
  · exact ⟨_, atI_3⟩
theorem rd_law_numbers {ds : List D} {S : Own} {R : DVK} {RX : DXK} (h : sp_law_numbers ds S R RX) : t_law_numbers (En R) (startD N_law_numbers ds) S := by
  obtain ⟨b, p, ms, rfl, nbp, hm, hb, hp, q⟩ := h
  have hz := size1000
  simp only [t_law_numbers, t_law_numbers_s0, t_law_numbers_s1, t_law_numbers_s2, dDctO, dFor, dSeq, dIfS, dTb, d2, d1, dVar, dC, dRet, dSet, dPut, dNext, dCB, dCons, dNil, dTup, dLst, dCall, dAnd, dOr, dNot, dAndV, dOrV, dNotV, dChain, dDrop, dIf, dgName, dgNil, dgCons, dgTup, dAsg, dPar, startD, wipeD, List.map_cons, List.map_nil, List.length_cons, List.length_nil, List.replicate, List.cons_append, List.nil_append, List.append_nil, List.getElem?_cons_zero, List.getElem?_cons_succ, Option.some.injEq, exists_eq_left', exists_eq_left, List.set_cons_zero, List.set_cons_succ, rEq_ii, rEq_ss, rNe_ss, rI1_ii, rI2_ii, DL.ix_lst, DL.ix_tup, atI_0, atI_1, atI_2, atI_3, atI_4, atI_5, some_ex, bl_ex, int_ex, len_lst, len_tup, mul_ii, add_ii, add_ll, add_tt, add_ss, decide_eq_true_eq, D.tup.injEq, D.lst.injEq, D.dct.injEq, D.str.injEq, D.int.injEq, D.bl.injEq, D.ref.injEq, Nat.zero_add, Nat.add_zero, Nat.sub_self, Nat.add_one_sub_one, Nat.reduceAdd, Nat.reduceSub, cons_ex, pair_ex, sz_0, sz_1, sz_2, sz_3, sz_4, sz_5, sz_6, sz_7, sz_8, true_and, eq_self]
  intro q1 hq1 q2 hq2
  have n12 : q2 ≠ q1 := fun e => by subst e; rw [Own.put_same] at hq2; cases hq2
  rw [Own.put_ne n12] at hq2
  have sp : S p ≠ none := by rcases hp with e | ⟨z, e⟩ <;> rw [e] <;> simp
  have sb : S b ≠ none := by obtain ⟨bg, e, _⟩ := hb; rw [e]; simp
  have n1p : q1 ≠ p := fun e => sp (e ▸ hq1)
  have n2p : q2 ≠ p := fun e => sp (e ▸ hq2)
  have n1b : q1 ≠ b := fun e => sb (e ▸ hq1)
  have n2b : q2 ≠ b := fun e => sb (e ▸ hq2)
  have kp : Keep S ((S.put q1 (.dct [])).put q2 (.dct [])) [] := (keep_new hq1).trans (keep_new (by rw [Own.put_ne n12]; exact hq2))
  refine di_keys_ref (a := p) (es := makesD ms) (fun R' r => by first | exact ⟨_, rfl, r⟩ | exact r) (hp.keep kp (by simp)) fun z S3 hz3 hk3 => ?_
  rw [makes_keys]
  have k3 : Keep S S3 [p] := fun a o e n => by
    have : a ≠ p := fun z => n (by rw [z]; exact .head _)
    rw [hk3 a this]; exact kp a o e (by simp)
  refine forRun_map (fun m : Make => D.str m.part) (fun pre G' S' => (∃ a c d, G' = [some (.ref b), some (.ref p), some (.ref q1), some (.ref q2), a, c, d]) ∧ (∃ ks ss, ks.map (·.1) = spots pre ∧ ss.map (·.1) = owns pre ∧ S' q1 = some (.dct (keysD ks)) ∧ S' q2 = some (.dct (shelvesD ss))) ∧ Bag S' b ∧ S' p = some (.dcz z (makesD ms)) ∧ Keep S S' [b, p]) ?_ ?_ ?_
  · refine ⟨⟨_, _, _, rfl⟩, ⟨[], [], rfl, rfl, ?_, ?_⟩, hb.keep k3 (by simpa using nbp), hz3, k3.mono (by simp)⟩
    · rw [hk3 _ n1p, Own.put_ne (Ne.symm n12), Own.put_same]; rfl
    · rw [hk3 _ n2p, Own.put_same]; rfl
  · rintro pre m post G' S4 K eq ⟨⟨a, c, d, rfl⟩, ⟨ks, ss, ek, es, h1, h2⟩, hb4, hp4, k4⟩ k
    have mm : m ∈ ms := by rw [eq]; simp
    have hmm := hm.each m mm
    refine ⟨hp4, ?_⟩
    simp only [t_law_numbers_b1, dLc, diLst, diTup, dFor, dSeq, dIfS, dTb, d2, d1, dVar, dC, dRet, dSet, dPut, dNext, dCB, dCons, dNil, dTup, dLst, dCall, dAnd, dOr, dNot, dAndV, dOrV, dNotV, dChain, dDrop, dIf, dgName, dgNil, dgCons, dgTup, dAsg, dPar, startD, wipeD, List.map_cons, List.map_nil, List.length_cons, List.length_nil, List.replicate, List.cons_append, List.nil_append, List.append_nil, List.getElem?_cons_zero, List.getElem?_cons_succ, Option.some.injEq, exists_eq_left', exists_eq_left, List.set_cons_zero, List.set_cons_succ, rEq_ii, rEq_ss, rNe_ss, rI1_ii, rI2_ii, DL.ix_lst, DL.ix_tup, atI_0, atI_1, atI_2, atI_3, atI_4, atI_5, some_ex, bl_ex, int_ex, len_lst, len_tup, mul_ii, add_ii, add_ll, add_tt, add_ss, decide_eq_true_eq, D.tup.injEq, D.lst.injEq, D.dct.injEq, D.str.injEq, D.int.injEq, D.bl.injEq, D.ref.injEq, Nat.zero_add, Nat.add_zero, Nat.sub_self, Nat.add_one_sub_one, Nat.reduceAdd, Nat.reduceSub, cons_ex, pair_ex, sz_0, sz_1, sz_2, sz_3, sz_4, sz_5, sz_6, sz_7, sz_8, true_and, eq_self]
    refine ix_mk (by simp only [dicOf, hp4]) hm.parts mm ?_
    simp only [ix_make3, dSeq, dIfS, dTb, d2, d1, dVar, dC, dRet, dSet, dPut, dNext, dCB, dCons, dNil, dTup, dLst, dCall, dAnd, dOr, dNot, dAndV, dOrV, dNotV, dChain, dDrop, dIf, dgName, dgNil, dgCons, dgTup, dAsg, dPar, startD, wipeD, List.map_cons, List.map_nil, List.length_cons, List.length_nil, List.replicate, List.cons_append, List.nil_append, List.append_nil, List.getElem?_cons_zero, List.getElem?_cons_succ, Option.some.injEq, exists_eq_left', exists_eq_left, List.set_cons_zero, List.set_cons_succ, rEq_ii, rEq_ss, rNe_ss, rI1_ii, rI2_ii, DL.ix_lst, DL.ix_tup, atI_0, atI_1, atI_2, atI_3, atI_4, atI_5, some_ex, bl_ex, int_ex, len_lst, len_tup, mul_ii, add_ii, add_ll, add_tt, add_ss, decide_eq_true_eq, D.tup.injEq, D.lst.injEq, D.dct.injEq, D.str.injEq, D.int.injEq, D.bl.injEq, D.ref.injEq, Nat.zero_add, Nat.add_zero, Nat.sub_self, Nat.add_one_sub_one, Nat.reduceAdd, Nat.reduceSub, cons_ex, pair_ex, sz_0, sz_1, sz_2, sz_3, sz_4, sz_5, sz_6, sz_7, sz_8, true_and, eq_self]
    refine lcRun_map Row.d (fun (r : Row) => if r.word = ("on" : Str) then none else some r.d) (by have := hmm.few; omega) trivial (fun r _ K k => ?_) ?_
    · simp only [ix_word, dSeq, dIfS, dTb, d2, d1, dVar, dC, dRet, dSet, dPut, dNext, dCB, dCons, dNil, dTup, dLst, dCall, dAnd, dOr, dNot, dAndV, dOrV, dNotV, dChain, dDrop, dIf, dgName, dgNil, dgCons, dgTup, dAsg, dPar, startD, wipeD, List.map_cons, List.map_nil, List.length_cons, List.length_nil, List.replicate, List.cons_append, List.nil_append, List.append_nil, List.getElem?_cons_zero, List.getElem?_cons_succ, Option.some.injEq, exists_eq_left', exists_eq_left, List.set_cons_zero, List.set_cons_succ, rEq_ii, rEq_ss, rNe_ss, rI1_ii, rI2_ii, DL.ix_lst, DL.ix_tup, atI_0, atI_1, atI_2, atI_3, atI_4, atI_5, some_ex, bl_ex, int_ex, len_lst, len_tup, mul_ii, add_ii, add_ll, add_tt, add_ss, decide_eq_true_eq, D.tup.injEq, D.lst.injEq, D.dct.injEq, D.str.injEq, D.int.injEq, D.bl.injEq, D.ref.injEq, Nat.zero_add, Nat.add_zero, Nat.sub_self, Nat.add_one_sub_one, Nat.reduceAdd, Nat.reduceSub, cons_ex, pair_ex, sz_0, sz_1, sz_2, sz_3, sz_4, sz_5, sz_6, sz_7, sz_8, true_and, eq_self]
      by_cases hw : r.word = ("on" : Str)
      · simpa [hw] using k
      · simpa [hw] using k
    · have e1 : (m.rows.filterMap fun (r : Row) => if r.word = ("on" : Str) then none else some r.d) = (noRows m).map Row.d := by
        unfold noRows
        induction m.rows with
        | nil => rfl
        | cons r rs ih => by_cases hw : r.word = ("on" : Str) <;> simp [hw, ih]
      rw [e1]
      refine forRun_map Row.d (all := noRows m) (fun rp G' S' => (∃ c d, G' = [some (.ref b), some (.ref p), some (.ref q1), some (.ref q2), some (.str m.part), c, d]) ∧ (∃ ks ss, ks.map (·.1) = spots pre ++ ((rp.filterMap kn).map fun x => (m.part, x)) ∧ ss.map (·.1) = owns pre ++ rp.filterMap on' ∧ S' q1 = some (.dct (keysD ks)) ∧ S' q2 = some (.dct (shelvesD ss))) ∧ Bag S' b ∧ S' p = some (.dcz z (makesD ms)) ∧ Keep S S' [b, p]) ⟨⟨_, _, rfl⟩, ⟨ks, ss, by simpa using ek, by simpa using es, h1, h2⟩, hb4, hp4, k4⟩ ?_ ?_
      · rintro rp r rq G' S5 K2 eq2 ⟨⟨c, d, rfl⟩, ⟨ks, ss, ek, es, h1, h2⟩, hb5, hp5, k5⟩ k2
        refine ⟨trivial, ?_⟩
        have rl : rp.length ≤ 100 := by
          have : (noRows m).length ≤ m.rows.length := List.length_filter_le _ _
          have : (noRows m).length = rp.length + (rq.length + 1) := by rw [eq2]; simp
          have := hmm.few
          omega
        have rm : r ∈ m.rows := (List.mem_filter.mp (show r ∈ noRows m by rw [eq2]; simp)).1
        have ri := hmm.rin r rm
        have lk : ks.length < sizeLine := by
          have h := congrArg List.length ek
          have := spots_len hm eq
          have := List.length_filterMap_le kn rp
          simp only [List.length_map, List.length_append] at h
          omega
        have ls : ss.length < sizeLine := by
          have h := congrArg List.length es
          have := owns_len hm eq
          have := List.length_filterMap_le on' rp
          simp only [List.length_map, List.length_append] at h
          omega
        rcases no_of (m := m) (r := r) (by rw [eq2]; simp) with ⟨x, lo, hi, f, c', rfl⟩ | ⟨x, lo, hi, f, rfl⟩
        · simp only [t_law_numbers_b0, Row.d, dSeq, dIfS, dTb, d2, d1, dVar, dC, dRet, dSet, dPut, dNext, dCB, dCons, dNil, dTup, dLst, dCall, dAnd, dOr, dNot, dAndV, dOrV, dNotV, dChain, dDrop, dIf, dgName, dgNil, dgCons, dgTup, dAsg, dPar, startD, wipeD, List.map_cons, List.map_nil, List.length_cons, List.length_nil, List.replicate, List.cons_append, List.nil_append, List.append_nil, List.getElem?_cons_zero, List.getElem?_cons_succ, Option.some.injEq, exists_eq_left', exists_eq_left, List.set_cons_zero, List.set_cons_succ, rEq_ii, rEq_ss, rNe_ss, rI1_ii, rI2_ii, DL.ix_lst, DL.ix_tup, atI_0, atI_1, atI_2, atI_3, atI_4, atI_5, some_ex, bl_ex, int_ex, len_lst, len_tup, mul_ii, add_ii, add_ll, add_tt, add_ss, decide_eq_true_eq, D.tup.injEq, D.lst.injEq, D.dct.injEq, D.str.injEq, D.int.injEq, D.bl.injEq, D.ref.injEq, Nat.zero_add, Nat.add_zero, Nat.sub_self, Nat.add_one_sub_one, Nat.reduceAdd, Nat.reduceSub, cons_ex, pair_ex, sz_0, sz_1, sz_2, sz_3, sz_4, sz_5, sz_6, sz_7, sz_8, true_and, eq_self]
          obtain ⟨r1, r2⟩ : lo ≤ hi ∧ hi ≤ lo + 8 := ri
          refine take_step hb5 (by omega) (by omega) fun v1 S6 a0 a1 b6 k6 => ?_
          simp only [dSeq, dIfS, dTb, d2, d1, dVar, dC, dRet, dSet, dPut, dNext, dCB, dCons, dNil, dTup, dLst, dCall, dAnd, dOr, dNot, dAndV, dOrV, dNotV, dChain, dDrop, dIf, dgName, dgNil, dgCons, dgTup, dAsg, dPar, startD, wipeD, List.map_cons, List.map_nil, List.length_cons, List.length_nil, List.replicate, List.cons_append, List.nil_append, List.append_nil, List.getElem?_cons_zero, List.getElem?_cons_succ, Option.some.injEq, exists_eq_left', exists_eq_left, List.set_cons_zero, List.set_cons_succ, rEq_ii, rEq_ss, rNe_ss, rI1_ii, rI2_ii, DL.ix_lst, DL.ix_tup, atI_0, atI_1, atI_2, atI_3, atI_4, atI_5, some_ex, bl_ex, int_ex, len_lst, len_tup, mul_ii, add_ii, add_ll, add_tt, add_ss, decide_eq_true_eq, D.tup.injEq, D.lst.injEq, D.dct.injEq, D.str.injEq, D.int.injEq, D.bl.injEq, D.ref.injEq, Nat.zero_add, Nat.add_zero, Nat.sub_self, Nat.add_one_sub_one, Nat.reduceAdd, Nat.reduceSub, cons_ex, pair_ex, sz_0, sz_1, sz_2, sz_3, sz_4, sz_5, sz_6, sz_7, sz_8, true_and, eq_self]
          refine take_step b6 (by decide) (by decide) fun v2 S7 a2 a3 b7 k7 => ?_
          have kk : Keep S5 S7 [b] := k6.trans k7
          obtain ⟨n, en⟩ := four_ints lo hi f (lo + v1) a2 a3
          refine ⟨v2, _, rfl, en, ?_⟩
          have g1 : S7 q1 = _ := keep_ne kk h1 (by simpa using n1b)
          have g2 : S7 q2 = _ := keep_ne kk h2 (by simpa using n2b)
          have g3 : S7 p = _ := keep_ne kk hp5 (by simpa using Ne.symm nbp)
          simp only [decide_true, if_true]
          rw [set_rd g1]
          refine ⟨rfl, kind_keys, by unfold keysD; rw [List.length_map]; exact lk, ?_⟩
          rw [put_keys (by rw [ek]; exact fresh_spot' hm eq kn_no eq2)]
          refine k2 _ _ ⟨⟨_, _, rfl⟩, ⟨ks ++ [((m.part, x), n)], ss, ?_, ?_, Own.put_same, ?_⟩, ?_, ?_, ?_⟩
          · rw [List.map_append, ek]; simp [kn]
          · rw [es]; simp [on']
          · rw [Own.put_ne n12]; exact g2
          · obtain ⟨bg, eb, ob⟩ := b7; exact ⟨bg, by rw [Own.put_ne (Ne.symm n1b)]; exact eb, ob⟩
          · rw [Own.put_ne (Ne.symm n1p)]; exact g3
          · intro a o e n
            have : a ≠ q1 := fun z => by rw [z, hq1] at e; cases e
            rw [Own.put_ne this]
            exact kk a o (k5 a o e n) (fun z => n (by rw [List.mem_singleton.mp z]; exact .head _))
        · simp only [t_law_numbers_b0, Row.d, dSeq, dIfS, dTb, d2, d1, dVar, dC, dRet, dSet, dPut, dNext, dCB, dCons, dNil, dTup, dLst, dCall, dAnd, dOr, dNot, dAndV, dOrV, dNotV, dChain, dDrop, dIf, dgName, dgNil, dgCons, dgTup, dAsg, dPar, startD, wipeD, List.map_cons, List.map_nil, List.length_cons, List.length_nil, List.replicate, List.cons_append, List.nil_append, List.append_nil, List.getElem?_cons_zero, List.getElem?_cons_succ, Option.some.injEq, exists_eq_left', exists_eq_left, List.set_cons_zero, List.set_cons_succ, rEq_ii, rEq_ss, rNe_ss, rI1_ii, rI2_ii, DL.ix_lst, DL.ix_tup, atI_0, atI_1, atI_2, atI_3, atI_4, atI_5, some_ex, bl_ex, int_ex, len_lst, len_tup, mul_ii, add_ii, add_ll, add_tt, add_ss, decide_eq_true_eq, D.tup.injEq, D.lst.injEq, D.dct.injEq, D.str.injEq, D.int.injEq, D.bl.injEq, D.ref.injEq, Nat.zero_add, Nat.add_zero, Nat.sub_self, Nat.add_one_sub_one, Nat.reduceAdd, Nat.reduceSub, cons_ex, pair_ex, sz_0, sz_1, sz_2, sz_3, sz_4, sz_5, sz_6, sz_7, sz_8, true_and, eq_self]
          obtain ⟨r1, r2⟩ : lo ≤ hi ∧ hi ≤ lo + 8 := ri
          refine take_step hb5 (by omega) (by omega) fun v1 S6 a0 a1 b6 k6 => ?_
          simp only [dSeq, dIfS, dTb, d2, d1, dVar, dC, dRet, dSet, dPut, dNext, dCB, dCons, dNil, dTup, dLst, dCall, dAnd, dOr, dNot, dAndV, dOrV, dNotV, dChain, dDrop, dIf, dgName, dgNil, dgCons, dgTup, dAsg, dPar, startD, wipeD, List.map_cons, List.map_nil, List.length_cons, List.length_nil, List.replicate, List.cons_append, List.nil_append, List.append_nil, List.getElem?_cons_zero, List.getElem?_cons_succ, Option.some.injEq, exists_eq_left', exists_eq_left, List.set_cons_zero, List.set_cons_succ, rEq_ii, rEq_ss, rNe_ss, rI1_ii, rI2_ii, DL.ix_lst, DL.ix_tup, atI_0, atI_1, atI_2, atI_3, atI_4, atI_5, some_ex, bl_ex, int_ex, len_lst, len_tup, mul_ii, add_ii, add_ll, add_tt, add_ss, decide_eq_true_eq, D.tup.injEq, D.lst.injEq, D.dct.injEq, D.str.injEq, D.int.injEq, D.bl.injEq, D.ref.injEq, Nat.zero_add, Nat.add_zero, Nat.sub_self, Nat.add_one_sub_one, Nat.reduceAdd, Nat.reduceSub, cons_ex, pair_ex, sz_0, sz_1, sz_2, sz_3, sz_4, sz_5, sz_6, sz_7, sz_8, true_and, eq_self]
          refine take_step b6 (by decide) (by decide) fun v2 S7 a2 a3 b7 k7 => ?_
          have kk : Keep S5 S7 [b] := k6.trans k7
          obtain ⟨n, en⟩ := four_ints lo hi f (lo + v1) a2 a3
          refine ⟨v2, _, rfl, en, ?_⟩
          have g1 : S7 q1 = _ := keep_ne kk h1 (by simpa using n1b)
          have g2 : S7 q2 = _ := keep_ne kk h2 (by simpa using n2b)
          have g3 : S7 p = _ := keep_ne kk hp5 (by simpa using Ne.symm nbp)
          have no : ¬ Str.ofString "own" = Str.ofString "key" := by decide
          simp only [if_neg no]
          rw [set_rd g2]
          refine ⟨rfl, kind_shelves, by unfold shelvesD; rw [List.length_map]; exact ls, ?_⟩
          rw [put_shelves (by rw [es]; exact fresh_own' hm eq on_no eq2)]
          refine k2 _ _ ⟨⟨_, _, rfl⟩, ⟨ks, ss ++ [(x, n)], ?_, ?_, ?_, Own.put_same⟩, ?_, ?_, ?_⟩
          · rw [ek]; simp [kn]
          · rw [List.map_append, es]; simp [on']
          · rw [Own.put_ne (Ne.symm n12)]; exact g1
          · obtain ⟨bg, eb, ob⟩ := b7; exact ⟨bg, by rw [Own.put_ne (Ne.symm n2b)]; exact eb, ob⟩
          · rw [Own.put_ne (Ne.symm n2p)]; exact g3
          · intro a o e n
            have : a ≠ q2 := fun z => by rw [z, hq2] at e; cases e
            rw [Own.put_ne this]
            exact kk a o (k5 a o e n) (fun z => n (by rw [List.mem_singleton.mp z]; exact .head _))
      · rintro G' S5 ⟨⟨c, d, rfl⟩, ⟨ks, ss, ek, es, h1, h2⟩, hb5, hp5, k5⟩
        refine ⟨trivial, k _ _ ⟨⟨_, _, _, rfl⟩, ⟨ks, ss, ?_, ?_, h1, h2⟩, hb5, hp5, k5⟩⟩
        · rw [ek, kn_no, spots_snoc]; rfl
        · rw [es, on_no, owns_snoc]
  · rintro G' S4 ⟨⟨a, c, d, rfl⟩, ⟨ks, ss, ek, es, h1, h2⟩, hb4, hp4, k4⟩
    refine ⟨hp4, ?_⟩
    simp only [dSeq, dIfS, dTb, d2, d1, dVar, dC, dRet, dSet, dPut, dNext, dCB, dCons, dNil, dTup, dLst, dCall, dAnd, dOr, dNot, dAndV, dOrV, dNotV, dChain, dDrop, dIf, dgName, dgNil, dgCons, dgTup, dAsg, dPar, startD, wipeD, List.map_cons, List.map_nil, List.length_cons, List.length_nil, List.replicate, List.cons_append, List.nil_append, List.append_nil, List.getElem?_cons_zero, List.getElem?_cons_succ, Option.some.injEq, exists_eq_left', exists_eq_left, List.set_cons_zero, List.set_cons_succ, rEq_ii, rEq_ss, rNe_ss, rI1_ii, rI2_ii, DL.ix_lst, DL.ix_tup, atI_0, atI_1, atI_2, atI_3, atI_4, atI_5, some_ex, bl_ex, int_ex, len_lst, len_tup, mul_ii, add_ii, add_ll, add_tt, add_ss, decide_eq_true_eq, D.tup.injEq, D.lst.injEq, D.dct.injEq, D.str.injEq, D.int.injEq, D.bl.injEq, D.ref.injEq, Nat.zero_add, Nat.add_zero, Nat.sub_self, Nat.add_one_sub_one, Nat.reduceAdd, Nat.reduceSub, cons_ex, pair_ex, sz_0, sz_1, sz_2, sz_3, sz_4, sz_5, sz_6, sz_7, sz_8, true_and, eq_self]
    exact q ks ss q1 q2 S4 ek es hq1 hq2 (Ne.symm n12) h1 h2 hb4 (.inr ⟨z, hp4⟩) k4
end K83
namespace K83
open PySem PySem.Spec PyProof.Rows L2 DL
/-! ### dicts in flight -/
section
variable {a : Addr} {ks : Keys} {ss : Shelves} {ms : List Make} {x y : Str} {S : Own} {R : DVK} {neg : Bool}
theorem dic_of {es : List (D × D)} (h : S a = some (.dct es)) : dicOf S (.ref a) = some es := by simp only [dicOf, h]
theorem in_sref (h : S a = some (.dct (shelvesD ss))) : rInD neg (.str x) (.ref a) S R = R (.bl (if neg = true then !(ss.lookup x).isSome else (ss.lookup x).isSome)) S := by
  rw [in_dic (dic_of h), look_shelves, Option.isSome_map]
  simp only [kind_shelves, true_and, show keyB (.str x) = true from rfl]
theorem in_kref (h : S a = some (.dct (keysD ks))) : rInD neg (.tup [.str x, .str y]) (.ref a) S R = R (.bl (if neg = true then !(ks.lookup (x, y)).isSome else (ks.lookup (x, y)).isSome)) S := by
  rw [in_dic (dic_of h), look_keys, Option.isSome_map]
  simp only [kind_keys, true_and, show keyB (.tup [.str x, .str y]) = true from rfl]
theorem ix_sref (h : S a = some (.dct (shelvesD ss))) : DL.rIxD (.ref a) (.str x) S R = ∃ v, ss.lookup x = some v ∧ R (.int v) S := by
  rw [ix_dic (dic_of h), ← ix_shelves, ix_dic (es := shelvesD ss) rfl]
theorem ix_kref (h : S a = some (.dct (keysD ks))) : DL.rIxD (.ref a) (.tup [.str x, .str y]) S R = ∃ v, ks.lookup (x, y) = some v ∧ R (.int v) S := by
  rw [ix_dic (dic_of h), ← ix_keys, ix_dic (es := keysD ks) rfl]
theorem get_sref (h : S a = some (.dct (shelvesD ss))) : rGet2 (.ref a) [.str x, .int 0] S R = R (.int ((ss.lookup x).getD 0)) S := by
  have e : ((lookD (shelvesD ss) (.str x)).getD (.int 0)) = .int ((ss.lookup x).getD 0) := by rw [look_shelves]; cases ss.lookup x <;> rfl
  apply propext; constructor
  · rintro ⟨es, k, z, h1, h2, _, _, q⟩
    rw [dic_of h] at h1; cases h1; cases h2; rw [e] at q; exact q
  · intro q; exact ⟨_, _, _, dic_of h, rfl, rfl, kind_shelves, by rw [e]; exact q⟩
theorem get_kref (h : S a = some (.dct (keysD ks))) : rGet2 (.ref a) [.tup [.str x, .str y], .int 0] S R = R (.int ((ks.lookup (x, y)).getD 0)) S := by
  have e : ((lookD (keysD ks) (.tup [.str x, .str y])).getD (.int 0)) = .int ((ks.lookup (x, y)).getD 0) := by rw [look_keys]; cases ks.lookup (x, y) <;> rfl
  apply propext; constructor
  · rintro ⟨es, k, z, h1, h2, _, _, q⟩
    rw [dic_of h] at h1; cases h1; cases h2; rw [e] at q; exact q
  · intro q; exact ⟨_, _, _, dic_of h, rfl, rfl, kind_keys, by rw [e]; exact q⟩
theorem get_mref (h : MAt S a ms) : rGet1 (.ref a) [.str x] S R = R (wasD (ms.find? fun e => e.part == x)) S := by
  have e : ((lookD (makesD ms) (.str x)).getD .non) = wasD (ms.find? fun e => e.part == x) := by
    rw [look_makes]
    have : (fun m : Make => x == m.part) = fun e => e.part == x := by funext m; exact Bool.beq_comm
    rw [this]
    cases ms.find? fun e => e.part == x <;> rfl
  apply propext; constructor
  · rintro ⟨es, k, h1, h2, _, _, q⟩
    rw [h.dic] at h1; cases h1; cases h2; rw [e] at q; exact q
  · intro q; exact ⟨_, _, h.dic, rfl, rfl, kind_makes, by rw [e]; exact q⟩
end
/-! ### due -/
def dueRow (ks : Keys) (el : List Make) (m : Make) : Row → Option (Spot × Int)
  | .key x lo hi f c => some ((m.part, x), dueN ks el m x lo hi f c)
  | _ => none
def dueSRow (ss : Shelves) : Row → Option (Str × Int)
  | .own x lo hi f => some (x, dueS ss x lo hi f)
  | _ => none
theorem dueKeys_eq {ks : Keys} {el nw : List Make} : dueKeys ks el nw = nw.flatMap fun m => m.rows.filterMap (dueRow ks el m) := rfl
theorem dueShelves_eq {ss : Shelves} {nw : List Make} : dueShelves ss nw = nw.flatMap fun m => m.rows.filterMap (dueSRow ss) := rfl
theorem dueRow_fst {ks : Keys} {el : List Make} {m : Make} : ∀ {rs : List Row}, (rs.filterMap (dueRow ks el m)).map (·.1) = (rs.filterMap kn).map fun x => (m.part, x)
  | [] => rfl
  | r :: rs => by
    have ih := dueRow_fst (ks := ks) (el := el) (m := m) (rs := rs)
    cases r <;> first | exact ih | exact congrArg (_ :: ·) ih
theorem dueSRow_fst {ss : Shelves} : ∀ {rs : List Row}, (rs.filterMap (dueSRow ss)).map (·.1) = rs.filterMap on'
  | [] => rfl
  | r :: rs => by
    have ih := dueSRow_fst (ss := ss) (rs := rs)
    cases r <;> first | exact ih | exact congrArg (_ :: ·) ih
theorem dueKeys_fst {ks : Keys} {el : List Make} : ∀ {ms : List Make}, (dueKeys ks el ms).map (·.1) = spots ms
  | [] => rfl
  | m :: ms => by
    have ih := dueKeys_fst (ks := ks) (el := el) (ms := ms)
    rw [dueKeys_eq] at ih ⊢
    unfold spots at ih ⊢
    rw [List.flatMap_cons, List.map_append, ih, List.flatMap_cons, dueRow_fst]; rfl
theorem dueShelves_fst {ss : Shelves} : ∀ {ms : List Make}, (dueShelves ss ms).map (·.1) = owns ms
  | [] => rfl
  | m :: ms => by
    have ih := dueShelves_fst (ss := ss) (ms := ms)
    rw [dueShelves_eq] at ih ⊢
    unfold owns at ih ⊢
    rw [List.flatMap_cons, List.map_append, ih, List.flatMap_cons, dueSRow_fst]; rfl
def wasEq (w : Option Make) (m : Make) : Bool := match w with
  | some e => eqv e.d m.d
  | none => false
theorem dueN_eq {ks : Keys} {el : List Make} {m : Make} {x : Str} {lo hi f : Int} {c : Str} : dueN ks el m x lo hi f c = if ((match ks.lookup (m.part, x) with | some v => decide (c = "kept") && decide (lo ≤ v) && decide (v ≤ hi) | none => false) || wasEq (el.find? fun e => e.part == m.part) m) = true then (ks.lookup (m.part, x)).getD 0 else f := rfl
theorem rEq_was {w : Option Make} {m : Make} {S : Own} {R : DVK} (q : R (.bl (wasEq w m)) S) : DL.rEqD (wasD w) m.d S R := by
  cases w with
  | none => exact rEq_sh (by simp [wasD, shD]) (sh_pl (sh_make m)).1 q
  | some e => exact rEq_sh (sh_make e) (sh_pl (sh_make m)).1 q
theorem ix_mkE {ms : List Make} {m : Make} {p : Addr} {S : Own} {R : DVK} (h : dicOf S (.ref p) = some (makesD ms)) (hn : (ms.map (·.part)).Nodup) (hm : m ∈ ms) : DL.rIxD (.ref p) (.str m.part) S R = R m.d S := by
  rw [ix_dic h, look_makes, find_makes hn hm]
  apply propext; constructor
  · rintro ⟨_, _, z, e, q⟩; cases e; exact q
  · intro q; exact ⟨rfl, kind_makes, _, rfl, q⟩
theorem fm_none {α β : Type} {f : α → Option β} {l : List α} {r : α} (h : f r = none) : (l ++ [r]).filterMap f = l.filterMap f := by
  rw [List.filterMap_append, List.filterMap_cons, h]; simp
theorem fm_some {α β : Type} {f : α → Option β} {l : List α} {r : α} {x : β} (h : f r = some x) : (l ++ [r]).filterMap f = l.filterMap f ++ [x] := by
  rw [List.filterMap_append, List.filterMap_cons, h]; simp
theorem rd_law_due {ds : List D} {S : Own} {R : DVK} {RX : DXK} (h : sp_law_due ds S R RX) : t_law_due (En R) (startD N_law_due ds) S := by
  obtain ⟨q1, q2, p1, p2, ks, ss, el, nw, rfl, he, hn, h1, h2, hp1, hp2, n1, n2, np, q⟩ := h
  have hz := size1000
  simp only [t_law_due, t_law_due_s0, t_law_due_s1, t_law_due_s2, dDctO, dFor, dSeq, dIfS, dTb, d2, d1, dVar, dC, dRet, dSet, dPut, dNext, dCB, dCons, dNil, dTup, dLst, dCall, dAnd, dOr, dNot, dAndV, dOrV, dNotV, dChain, dDrop, dIf, dgName, dgNil, dgCons, dgTup, dAsg, dPar, startD, wipeD, List.map_cons, List.map_nil, List.length_cons, List.length_nil, List.replicate, List.cons_append, List.nil_append, List.append_nil, List.getElem?_cons_zero, List.getElem?_cons_succ, Option.some.injEq, exists_eq_left', exists_eq_left, List.set_cons_zero, List.set_cons_succ, rEq_ii, rEq_ss, rNe_ss, rI1_ii, rI2_ii, DL.ix_lst, DL.ix_tup, atI_0, atI_1, atI_2, atI_3, atI_4, atI_5, some_ex, bl_ex, int_ex, len_lst, len_tup, mul_ii, add_ii, add_ll, add_tt, add_ss, decide_eq_true_eq, D.tup.injEq, D.lst.injEq, D.dct.injEq, D.str.injEq, D.int.injEq, D.bl.injEq, D.ref.injEq, Nat.zero_add, Nat.add_zero, Nat.sub_self, Nat.add_one_sub_one, Nat.reduceAdd, Nat.reduceSub, cons_ex, pair_ex, sz_0, sz_1, sz_2, sz_3, sz_4, sz_5, sz_6, sz_7, sz_8, true_and, eq_self]
  intro r1 hr1 r2 hr2
  have n12 : r2 ≠ r1 := fun e => by subst e; rw [Own.put_same] at hr2; cases hr2
  rw [Own.put_ne n12] at hr2
  have sp : S p2 ≠ none := by rcases hp2 with e | ⟨z, e⟩ <;> rw [e] <;> simp
  have n1p : r1 ≠ p2 := fun e => sp (e ▸ hr1)
  have n2p : r2 ≠ p2 := fun e => sp (e ▸ hr2)
  have kp : Keep S ((S.put r1 (.dct [])).put r2 (.dct [])) [] := (keep_new hr1).trans (keep_new (by rw [Own.put_ne n12]; exact hr2))
  refine di_keys_ref (a := p2) (es := makesD nw) (fun R' r => by first | exact ⟨_, rfl, r⟩ | exact r) (hp2.keep kp (by simp)) fun z S3 hz3 hk3 => ?_
  rw [makes_keys]
  have k3 : Keep S S3 [p2] := fun a o e n => by
    have : a ≠ p2 := fun z => n (by rw [z]; exact .head _)
    rw [hk3 a this]; exact kp a o e (by simp)
  refine forRun_map (fun m : Make => D.str m.part) (fun pre G' S' => (∃ a c d e, G' = [some (.ref q1), some (.ref q2), some (.ref p1), some (.ref p2), some (.tup [.ref r1, .ref r2]), a, c, d, e]) ∧ S' r1 = some (.dct (keysD (dueKeys ks el pre))) ∧ S' r2 = some (.dct (shelvesD (dueShelves ss pre))) ∧ S' p2 = some (.dcz z (makesD nw)) ∧ Keep S S' [p2]) ?_ ?_ ?_
  · refine ⟨⟨_, _, _, _, rfl⟩, ?_, ?_, hz3, k3⟩
    · rw [hk3 _ n1p, Own.put_ne (Ne.symm n12), Own.put_same]; rfl
    · rw [hk3 _ n2p, Own.put_same]; rfl
  · rintro pre m post G' S4 K eq ⟨⟨a, c, d, e, rfl⟩, g1, g2, hp4, k4⟩ k
    have mm : m ∈ nw := by rw [eq]; simp
    have hmm := hn.each m mm
    refine ⟨hp4, ?_⟩
    simp only [t_law_due_b1, diTup, dFor, dSeq, dIfS, dTb, d2, d1, dVar, dC, dRet, dSet, dPut, dNext, dCB, dCons, dNil, dTup, dLst, dCall, dAnd, dOr, dNot, dAndV, dOrV, dNotV, dChain, dDrop, dIf, dgName, dgNil, dgCons, dgTup, dAsg, dPar, startD, wipeD, List.map_cons, List.map_nil, List.length_cons, List.length_nil, List.replicate, List.cons_append, List.nil_append, List.append_nil, List.getElem?_cons_zero, List.getElem?_cons_succ, Option.some.injEq, exists_eq_left', exists_eq_left, List.set_cons_zero, List.set_cons_succ, rEq_ii, rEq_ss, rNe_ss, rI1_ii, rI2_ii, DL.ix_lst, DL.ix_tup, atI_0, atI_1, atI_2, atI_3, atI_4, atI_5, some_ex, bl_ex, int_ex, len_lst, len_tup, mul_ii, add_ii, add_ll, add_tt, add_ss, decide_eq_true_eq, D.tup.injEq, D.lst.injEq, D.dct.injEq, D.str.injEq, D.int.injEq, D.bl.injEq, D.ref.injEq, Nat.zero_add, Nat.add_zero, Nat.sub_self, Nat.add_one_sub_one, Nat.reduceAdd, Nat.reduceSub, cons_ex, pair_ex, sz_0, sz_1, sz_2, sz_3, sz_4, sz_5, sz_6, sz_7, sz_8, true_and, eq_self]
    refine ix_mk (by simp only [dicOf, hp4]) hn.parts mm ?_
    simp only [ix_make3, dSeq, dIfS, dTb, d2, d1, dVar, dC, dRet, dSet, dPut, dNext, dCB, dCons, dNil, dTup, dLst, dCall, dAnd, dOr, dNot, dAndV, dOrV, dNotV, dChain, dDrop, dIf, dgName, dgNil, dgCons, dgTup, dAsg, dPar, startD, wipeD, List.map_cons, List.map_nil, List.length_cons, List.length_nil, List.replicate, List.cons_append, List.nil_append, List.append_nil, List.getElem?_cons_zero, List.getElem?_cons_succ, Option.some.injEq, exists_eq_left', exists_eq_left, List.set_cons_zero, List.set_cons_succ, rEq_ii, rEq_ss, rNe_ss, rI1_ii, rI2_ii, DL.ix_lst, DL.ix_tup, atI_0, atI_1, atI_2, atI_3, atI_4, atI_5, some_ex, bl_ex, int_ex, len_lst, len_tup, mul_ii, add_ii, add_ll, add_tt, add_ss, decide_eq_true_eq, D.tup.injEq, D.lst.injEq, D.dct.injEq, D.str.injEq, D.int.injEq, D.bl.injEq, D.ref.injEq, Nat.zero_add, Nat.add_zero, Nat.sub_self, Nat.add_one_sub_one, Nat.reduceAdd, Nat.reduceSub, cons_ex, pair_ex, sz_0, sz_1, sz_2, sz_3, sz_4, sz_5, sz_6, sz_7, sz_8, true_and, eq_self]
    refine forRun_map Row.d (fun rp G' S' => (∃ c d e, G' = [some (.ref q1), some (.ref q2), some (.ref p1), some (.ref p2), some (.tup [.ref r1, .ref r2]), some (.str m.part), c, d, e]) ∧ S' r1 = some (.dct (keysD (dueKeys ks el pre ++ rp.filterMap (dueRow ks el m)))) ∧ S' r2 = some (.dct (shelvesD (dueShelves ss pre ++ rp.filterMap (dueSRow ss)))) ∧ S' p2 = some (.dcz z (makesD nw)) ∧ Keep S S' [p2]) ⟨⟨_, _, _, rfl⟩, by simpa using g1, by simpa using g2, hp4, k4⟩ ?_ ?_
    · rintro rp r rq G' S5 K2 eq2 ⟨⟨c, d, e, rfl⟩, g1, g2, hp5, k5⟩ k2
      refine ⟨trivial, ?_⟩
      have rl : rp.length ≤ 100 := by
        have : m.rows.length = rp.length + (rq.length + 1) := by rw [eq2]; simp
        have := hmm.few
        omega
      have fk : (dueKeys ks el pre ++ rp.filterMap (dueRow ks el m)).map (·.1) = spots pre ++ ((rp.filterMap kn).map fun x => (m.part, x)) := by
        rw [List.map_append, dueKeys_fst, dueRow_fst]
      have fs : (dueShelves ss pre ++ rp.filterMap (dueSRow ss)).map (·.1) = owns pre ++ rp.filterMap on' := by
        rw [List.map_append, dueShelves_fst, dueSRow_fst]
      have lk : (dueKeys ks el pre ++ rp.filterMap (dueRow ks el m)).length < sizeLine := by
        have h := congrArg List.length fk
        have := spots_len hn eq
        have := List.length_filterMap_le kn rp
        simp only [List.length_map, List.length_append] at h ⊢
        omega
      have ls : (dueShelves ss pre ++ rp.filterMap (dueSRow ss)).length < sizeLine := by
        have h := congrArg List.length fs
        have := owns_len hn eq
        have := List.length_filterMap_le on' rp
        simp only [List.length_map, List.length_append] at h ⊢
        omega
      have w1 : S5 q1 = _ := keep_ne k5 h1 (by simpa using n1)
      have w2 : S5 q2 = _ := keep_ne k5 h2 (by simpa using n2)
      have w3 : MAt S5 p1 el := hp1.keep k5 (by simpa using np)
      have t1 := tyD_dic (dic_of w1)
      have t2 := tyD_dic (dic_of w2)
      have t3 := tyD_dic w3.dic
      cases r with
      | on n =>
        have e1 : ¬ Str.ofString "on" = Str.ofString "own" := by decide
        have e2 : ¬ Str.ofString "on" = Str.ofString "key" := by decide
        simp only [t_law_due_b0, Row.d, if_neg e1, if_neg e2, dSeq, dIfS, dTb, d2, d1, dVar, dC, dRet, dSet, dPut, dNext, dCB, dCons, dNil, dTup, dLst, dCall, dAnd, dOr, dNot, dAndV, dOrV, dNotV, dChain, dDrop, dIf, dgName, dgNil, dgCons, dgTup, dAsg, dPar, startD, wipeD, List.map_cons, List.map_nil, List.length_cons, List.length_nil, List.replicate, List.cons_append, List.nil_append, List.append_nil, List.getElem?_cons_zero, List.getElem?_cons_succ, Option.some.injEq, exists_eq_left', exists_eq_left, List.set_cons_zero, List.set_cons_succ, rEq_ii, rEq_ss, rNe_ss, rI1_ii, rI2_ii, DL.ix_lst, DL.ix_tup, atI_0, atI_1, atI_2, atI_3, atI_4, atI_5, some_ex, bl_ex, int_ex, len_lst, len_tup, mul_ii, add_ii, add_ll, add_tt, add_ss, decide_eq_true_eq, D.tup.injEq, D.lst.injEq, D.dct.injEq, D.str.injEq, D.int.injEq, D.bl.injEq, D.ref.injEq, Nat.zero_add, Nat.add_zero, Nat.sub_self, Nat.add_one_sub_one, Nat.reduceAdd, Nat.reduceSub, cons_ex, pair_ex, sz_0, sz_1, sz_2, sz_3, sz_4, sz_5, sz_6, sz_7, sz_8, true_and, eq_self]
        exact k2 _ _ ⟨⟨_, _, _, rfl⟩, by rw [fm_none rfl]; exact g1, by rw [fm_none rfl]; exact g2, hp5, k5⟩
      | own x lo hi f =>
        have e2 : ¬ Str.ofString "own" = Str.ofString "key" := by decide
        have fin : ∀ n st, n = dueS ss x lo hi f → rSetD (.ref r2) (.str x) (.int n) S5 fun S6 => K2 [some (.ref q1), some (.ref q2), some (.ref p1), some (.ref p2), some (.tup [.ref r1, .ref r2]), some (.str m.part), some (.tup [.str "own", .str x, .int lo, .int hi, .int f]), st, e] S6 := fun n st en => by
          rw [set_rd g2]
          refine ⟨rfl, kind_shelves, by unfold shelvesD; rw [List.length_map]; exact ls, ?_⟩
          rw [put_shelves (by rw [fs]; exact fresh_own' hn eq (l := m.rows) rfl eq2)]
          subst en
          refine k2 _ _ ⟨⟨_, _, _, rfl⟩, ?_, ?_, ?_, ?_⟩
          · rw [Own.put_ne (Ne.symm n12), g1, fm_none rfl]
          · rw [Own.put_same, List.append_assoc]; exact congrArg (fun z => some (SO.dct z)) (congrArg _ (congrArg _ (fm_some (f := dueSRow ss) (r := .own x lo hi f) rfl).symm))
          · rw [Own.put_ne (Ne.symm n2p)]; exact hp5
          · exact fun a o e' n => by
              have : a ≠ r2 := fun z => by rw [z, hr2] at e'; cases e'
              rw [Own.put_ne this]; exact k5 a o e' n
        cases hl : ss.lookup x with
        | none =>
          simp only [t_law_due_b0, Row.d, in_sref w2, ix_sref w2, get_sref w2, t2, hl, dBM, rIntC, if_neg e2, dSeq, dIfS, dTb, d2, d1, dVar, dC, dRet, dSet, dPut, dNext, dCB, dCons, dNil, dTup, dLst, dCall, dAnd, dOr, dNot, dAndV, dOrV, dNotV, dChain, dDrop, dIf, dgName, dgNil, dgCons, dgTup, dAsg, dPar, startD, wipeD, List.map_cons, List.map_nil, List.length_cons, List.length_nil, List.replicate, List.cons_append, List.nil_append, List.append_nil, List.getElem?_cons_zero, List.getElem?_cons_succ, Option.some.injEq, exists_eq_left', exists_eq_left, List.set_cons_zero, List.set_cons_succ, rEq_ii, rEq_ss, rNe_ss, rI1_ii, rI2_ii, DL.ix_lst, DL.ix_tup, atI_0, atI_1, atI_2, atI_3, atI_4, atI_5, some_ex, bl_ex, int_ex, len_lst, len_tup, mul_ii, add_ii, add_ll, add_tt, add_ss, decide_eq_true_eq, D.tup.injEq, D.lst.injEq, D.dct.injEq, D.str.injEq, D.int.injEq, D.bl.injEq, D.ref.injEq, Nat.zero_add, Nat.add_zero, Nat.sub_self, Nat.add_one_sub_one, Nat.reduceAdd, Nat.reduceSub, cons_ex, pair_ex, sz_0, sz_1, sz_2, sz_3, sz_4, sz_5, sz_6, sz_7, sz_8, true_and, eq_self, if_true, Option.isSome_none, Bool.false_eq_true, if_false]
          exact fin _ _ (by unfold dueS; rw [hl])
        | some v =>
          by_cases c1 : lo ≤ v
          · by_cases c2 : v ≤ hi
            · simp only [t_law_due_b0, Row.d, in_sref w2, ix_sref w2, get_sref w2, t2, hl, dBM, rIntC, if_neg e2, c1, c2, decide_true, Option.getD_some, dSeq, dIfS, dTb, d2, d1, dVar, dC, dRet, dSet, dPut, dNext, dCB, dCons, dNil, dTup, dLst, dCall, dAnd, dOr, dNot, dAndV, dOrV, dNotV, dChain, dDrop, dIf, dgName, dgNil, dgCons, dgTup, dAsg, dPar, startD, wipeD, List.map_cons, List.map_nil, List.length_cons, List.length_nil, List.replicate, List.cons_append, List.nil_append, List.append_nil, List.getElem?_cons_zero, List.getElem?_cons_succ, Option.some.injEq, exists_eq_left', exists_eq_left, List.set_cons_zero, List.set_cons_succ, rEq_ii, rEq_ss, rNe_ss, rI1_ii, rI2_ii, DL.ix_lst, DL.ix_tup, atI_0, atI_1, atI_2, atI_3, atI_4, atI_5, some_ex, bl_ex, int_ex, len_lst, len_tup, mul_ii, add_ii, add_ll, add_tt, add_ss, decide_eq_true_eq, D.tup.injEq, D.lst.injEq, D.dct.injEq, D.str.injEq, D.int.injEq, D.bl.injEq, D.ref.injEq, Nat.zero_add, Nat.add_zero, Nat.sub_self, Nat.add_one_sub_one, Nat.reduceAdd, Nat.reduceSub, cons_ex, pair_ex, sz_0, sz_1, sz_2, sz_3, sz_4, sz_5, sz_6, sz_7, sz_8, true_and, eq_self, if_true, Option.isSome_some, Bool.false_eq_true, if_false]
              exact fin _ _ (by unfold dueS; rw [hl]; simp [c1, c2])
            · simp only [t_law_due_b0, Row.d, in_sref w2, ix_sref w2, get_sref w2, t2, hl, dBM, rIntC, if_neg e2, c1, c2, decide_true, decide_false, Option.getD_some, dSeq, dIfS, dTb, d2, d1, dVar, dC, dRet, dSet, dPut, dNext, dCB, dCons, dNil, dTup, dLst, dCall, dAnd, dOr, dNot, dAndV, dOrV, dNotV, dChain, dDrop, dIf, dgName, dgNil, dgCons, dgTup, dAsg, dPar, startD, wipeD, List.map_cons, List.map_nil, List.length_cons, List.length_nil, List.replicate, List.cons_append, List.nil_append, List.append_nil, List.getElem?_cons_zero, List.getElem?_cons_succ, Option.some.injEq, exists_eq_left', exists_eq_left, List.set_cons_zero, List.set_cons_succ, rEq_ii, rEq_ss, rNe_ss, rI1_ii, rI2_ii, DL.ix_lst, DL.ix_tup, atI_0, atI_1, atI_2, atI_3, atI_4, atI_5, some_ex, bl_ex, int_ex, len_lst, len_tup, mul_ii, add_ii, add_ll, add_tt, add_ss, decide_eq_true_eq, D.tup.injEq, D.lst.injEq, D.dct.injEq, D.str.injEq, D.int.injEq, D.bl.injEq, D.ref.injEq, Nat.zero_add, Nat.add_zero, Nat.sub_self, Nat.add_one_sub_one, Nat.reduceAdd, Nat.reduceSub, cons_ex, pair_ex, sz_0, sz_1, sz_2, sz_3, sz_4, sz_5, sz_6, sz_7, sz_8, true_and, eq_self, if_true, Option.isSome_some, Bool.false_eq_true, if_false]
              exact fin _ _ (by unfold dueS; rw [hl]; simp [c1, c2])
          · simp only [t_law_due_b0, Row.d, in_sref w2, ix_sref w2, get_sref w2, t2, hl, dBM, rIntC, if_neg e2, c1, decide_true, decide_false, Option.getD_some, dSeq, dIfS, dTb, d2, d1, dVar, dC, dRet, dSet, dPut, dNext, dCB, dCons, dNil, dTup, dLst, dCall, dAnd, dOr, dNot, dAndV, dOrV, dNotV, dChain, dDrop, dIf, dgName, dgNil, dgCons, dgTup, dAsg, dPar, startD, wipeD, List.map_cons, List.map_nil, List.length_cons, List.length_nil, List.replicate, List.cons_append, List.nil_append, List.append_nil, List.getElem?_cons_zero, List.getElem?_cons_succ, Option.some.injEq, exists_eq_left', exists_eq_left, List.set_cons_zero, List.set_cons_succ, rEq_ii, rEq_ss, rNe_ss, rI1_ii, rI2_ii, DL.ix_lst, DL.ix_tup, atI_0, atI_1, atI_2, atI_3, atI_4, atI_5, some_ex, bl_ex, int_ex, len_lst, len_tup, mul_ii, add_ii, add_ll, add_tt, add_ss, decide_eq_true_eq, D.tup.injEq, D.lst.injEq, D.dct.injEq, D.str.injEq, D.int.injEq, D.bl.injEq, D.ref.injEq, Nat.zero_add, Nat.add_zero, Nat.sub_self, Nat.add_one_sub_one, Nat.reduceAdd, Nat.reduceSub, cons_ex, pair_ex, sz_0, sz_1, sz_2, sz_3, sz_4, sz_5, sz_6, sz_7, sz_8, true_and, eq_self, if_true, Option.isSome_some, Bool.false_eq_true, if_false]
            exact fin _ _ (by unfold dueS; rw [hl]; simp [c1])
      | key x lo hi f c' =>
        have e2 : ¬ Str.ofString "key" = Str.ofString "own" := by decide
        have fin : ∀ n st, n = dueN ks el m x lo hi f c' → rSetD (.ref r1) (.tup [.str m.part, .str x]) (.int n) S5 fun S6 => K2 [some (.ref q1), some (.ref q2), some (.ref p1), some (.ref p2), some (.tup [.ref r1, .ref r2]), some (.str m.part), some (.tup [.str "key", .str x, .int lo, .int hi, .int f, .str c']), st, some (.tup [.str m.part, .str x])] S6 := fun n st en => by
          rw [set_rd g1]
          refine ⟨rfl, kind_keys, by unfold keysD; rw [List.length_map]; exact lk, ?_⟩
          rw [put_keys (by rw [fk]; exact fresh_spot' hn eq (l := m.rows) rfl eq2)]
          subst en
          refine k2 _ _ ⟨⟨_, _, _, rfl⟩, ?_, ?_, ?_, ?_⟩
          · rw [Own.put_same, List.append_assoc]; exact congrArg (fun z => some (SO.dct z)) (congrArg _ (congrArg _ (fm_some (f := dueRow ks el m) (r := .key x lo hi f c') rfl).symm))
          · rw [Own.put_ne n12, g2, fm_none rfl]
          · rw [Own.put_ne (Ne.symm n1p)]; exact hp5
          · exact fun a o e' n => by
              have : a ≠ r1 := fun z => by rw [z, hr1] at e'; cases e'
              rw [Own.put_ne this]; exact k5 a o e' n
        cases hl : ks.lookup (m.part, x) with
        | none =>
          simp only [t_law_due_b0, Row.d, in_kref w1, ix_kref w1, get_kref w1, get_mref w3, t1, t3, dBM, rIntC, if_neg e2, ix_mkE (show dicOf S5 (.ref p2) = some (makesD nw) by simp only [dicOf, hp5]) hn.parts mm, dSeq, dIfS, dTb, d2, d1, dVar, dC, dRet, dSet, dPut, dNext, dCB, dCons, dNil, dTup, dLst, dCall, dAnd, dOr, dNot, dAndV, dOrV, dNotV, dChain, dDrop, dIf, dgName, dgNil, dgCons, dgTup, dAsg, dPar, startD, wipeD, List.map_cons, List.map_nil, List.length_cons, List.length_nil, List.replicate, List.cons_append, List.nil_append, List.append_nil, List.getElem?_cons_zero, List.getElem?_cons_succ, Option.some.injEq, exists_eq_left', exists_eq_left, List.set_cons_zero, List.set_cons_succ, rEq_ii, rEq_ss, rNe_ss, rI1_ii, rI2_ii, DL.ix_lst, DL.ix_tup, atI_0, atI_1, atI_2, atI_3, atI_4, atI_5, some_ex, bl_ex, int_ex, len_lst, len_tup, mul_ii, add_ii, add_ll, add_tt, add_ss, decide_eq_true_eq, D.tup.injEq, D.lst.injEq, D.dct.injEq, D.str.injEq, D.int.injEq, D.bl.injEq, D.ref.injEq, Nat.zero_add, Nat.add_zero, Nat.sub_self, Nat.add_one_sub_one, Nat.reduceAdd, Nat.reduceSub, cons_ex, pair_ex, sz_0, sz_1, sz_2, sz_3, sz_4, sz_5, sz_6, sz_7, sz_8, true_and, eq_self, if_true, hl, Option.isSome_none, Bool.false_eq_true, if_false]
          refine rEq_was ?_
          simp only [t1, get_kref w1, rIntC, dSeq, dIfS, dTb, d2, d1, dVar, dC, dRet, dSet, dPut, dNext, dCB, dCons, dNil, dTup, dLst, dCall, dAnd, dOr, dNot, dAndV, dOrV, dNotV, dChain, dDrop, dIf, dgName, dgNil, dgCons, dgTup, dAsg, dPar, startD, wipeD, List.map_cons, List.map_nil, List.length_cons, List.length_nil, List.replicate, List.cons_append, List.nil_append, List.append_nil, List.getElem?_cons_zero, List.getElem?_cons_succ, Option.some.injEq, exists_eq_left', exists_eq_left, List.set_cons_zero, List.set_cons_succ, rEq_ii, rEq_ss, rNe_ss, rI1_ii, rI2_ii, DL.ix_lst, DL.ix_tup, atI_0, atI_1, atI_2, atI_3, atI_4, atI_5, some_ex, bl_ex, int_ex, len_lst, len_tup, mul_ii, add_ii, add_ll, add_tt, add_ss, decide_eq_true_eq, D.tup.injEq, D.lst.injEq, D.dct.injEq, D.str.injEq, D.int.injEq, D.bl.injEq, D.ref.injEq, Nat.zero_add, Nat.add_zero, Nat.sub_self, Nat.add_one_sub_one, Nat.reduceAdd, Nat.reduceSub, cons_ex, pair_ex, sz_0, sz_1, sz_2, sz_3, sz_4, sz_5, sz_6, sz_7, sz_8, true_and, eq_self]
          cases hb : wasEq (el.find? fun e => e.part == m.part) m with
          | true =>
            simp only [if_true, dSeq, dIfS, dTb, d2, d1, dVar, dC, dRet, dSet, dPut, dNext, dCB, dCons, dNil, dTup, dLst, dCall, dAnd, dOr, dNot, dAndV, dOrV, dNotV, dChain, dDrop, dIf, dgName, dgNil, dgCons, dgTup, dAsg, dPar, startD, wipeD, List.map_cons, List.map_nil, List.length_cons, List.length_nil, List.replicate, List.cons_append, List.nil_append, List.append_nil, List.getElem?_cons_zero, List.getElem?_cons_succ, Option.some.injEq, exists_eq_left', exists_eq_left, List.set_cons_zero, List.set_cons_succ, rEq_ii, rEq_ss, rNe_ss, rI1_ii, rI2_ii, DL.ix_lst, DL.ix_tup, atI_0, atI_1, atI_2, atI_3, atI_4, atI_5, some_ex, bl_ex, int_ex, len_lst, len_tup, mul_ii, add_ii, add_ll, add_tt, add_ss, decide_eq_true_eq, D.tup.injEq, D.lst.injEq, D.dct.injEq, D.str.injEq, D.int.injEq, D.bl.injEq, D.ref.injEq, Nat.zero_add, Nat.add_zero, Nat.sub_self, Nat.add_one_sub_one, Nat.reduceAdd, Nat.reduceSub, cons_ex, pair_ex, sz_0, sz_1, sz_2, sz_3, sz_4, sz_5, sz_6, sz_7, sz_8, true_and, eq_self]
            refine fin _ _ ?_; rw [dueN_eq, hl]; simp [hb]
          | false =>
            simp only [Bool.false_eq_true, if_false, dSeq, dIfS, dTb, d2, d1, dVar, dC, dRet, dSet, dPut, dNext, dCB, dCons, dNil, dTup, dLst, dCall, dAnd, dOr, dNot, dAndV, dOrV, dNotV, dChain, dDrop, dIf, dgName, dgNil, dgCons, dgTup, dAsg, dPar, startD, wipeD, List.map_cons, List.map_nil, List.length_cons, List.length_nil, List.replicate, List.cons_append, List.nil_append, List.append_nil, List.getElem?_cons_zero, List.getElem?_cons_succ, Option.some.injEq, exists_eq_left', exists_eq_left, List.set_cons_zero, List.set_cons_succ, rEq_ii, rEq_ss, rNe_ss, rI1_ii, rI2_ii, DL.ix_lst, DL.ix_tup, atI_0, atI_1, atI_2, atI_3, atI_4, atI_5, some_ex, bl_ex, int_ex, len_lst, len_tup, mul_ii, add_ii, add_ll, add_tt, add_ss, decide_eq_true_eq, D.tup.injEq, D.lst.injEq, D.dct.injEq, D.str.injEq, D.int.injEq, D.bl.injEq, D.ref.injEq, Nat.zero_add, Nat.add_zero, Nat.sub_self, Nat.add_one_sub_one, Nat.reduceAdd, Nat.reduceSub, cons_ex, pair_ex, sz_0, sz_1, sz_2, sz_3, sz_4, sz_5, sz_6, sz_7, sz_8, true_and, eq_self]
            refine fin _ _ ?_; rw [dueN_eq, hl]; simp [hb]
        | some v =>
          by_cases c0 : c' = Str.ofString "kept"
          · subst c0
            by_cases c1 : lo ≤ v
            · by_cases c2 : v ≤ hi
              · simp only [t_law_due_b0, Row.d, in_kref w1, ix_kref w1, get_kref w1, get_mref w3, t1, t3, dBM, rIntC, if_neg e2, ix_mkE (show dicOf S5 (.ref p2) = some (makesD nw) by simp only [dicOf, hp5]) hn.parts mm, dSeq, dIfS, dTb, d2, d1, dVar, dC, dRet, dSet, dPut, dNext, dCB, dCons, dNil, dTup, dLst, dCall, dAnd, dOr, dNot, dAndV, dOrV, dNotV, dChain, dDrop, dIf, dgName, dgNil, dgCons, dgTup, dAsg, dPar, startD, wipeD, List.map_cons, List.map_nil, List.length_cons, List.length_nil, List.replicate, List.cons_append, List.nil_append, List.append_nil, List.getElem?_cons_zero, List.getElem?_cons_succ, Option.some.injEq, exists_eq_left', exists_eq_left, List.set_cons_zero, List.set_cons_succ, rEq_ii, rEq_ss, rNe_ss, rI1_ii, rI2_ii, DL.ix_lst, DL.ix_tup, atI_0, atI_1, atI_2, atI_3, atI_4, atI_5, some_ex, bl_ex, int_ex, len_lst, len_tup, mul_ii, add_ii, add_ll, add_tt, add_ss, decide_eq_true_eq, D.tup.injEq, D.lst.injEq, D.dct.injEq, D.str.injEq, D.int.injEq, D.bl.injEq, D.ref.injEq, Nat.zero_add, Nat.add_zero, Nat.sub_self, Nat.add_one_sub_one, Nat.reduceAdd, Nat.reduceSub, cons_ex, pair_ex, sz_0, sz_1, sz_2, sz_3, sz_4, sz_5, sz_6, sz_7, sz_8, true_and, eq_self, if_true, hl, Option.isSome_some, c1, c2, decide_true, Bool.false_eq_true, if_false]
                refine fin v _ ?_; rw [dueN_eq, hl]; simp [c1, c2]
              · simp only [t_law_due_b0, Row.d, in_kref w1, ix_kref w1, get_kref w1, get_mref w3, t1, t3, dBM, rIntC, if_neg e2, ix_mkE (show dicOf S5 (.ref p2) = some (makesD nw) by simp only [dicOf, hp5]) hn.parts mm, dSeq, dIfS, dTb, d2, d1, dVar, dC, dRet, dSet, dPut, dNext, dCB, dCons, dNil, dTup, dLst, dCall, dAnd, dOr, dNot, dAndV, dOrV, dNotV, dChain, dDrop, dIf, dgName, dgNil, dgCons, dgTup, dAsg, dPar, startD, wipeD, List.map_cons, List.map_nil, List.length_cons, List.length_nil, List.replicate, List.cons_append, List.nil_append, List.append_nil, List.getElem?_cons_zero, List.getElem?_cons_succ, Option.some.injEq, exists_eq_left', exists_eq_left, List.set_cons_zero, List.set_cons_succ, rEq_ii, rEq_ss, rNe_ss, rI1_ii, rI2_ii, DL.ix_lst, DL.ix_tup, atI_0, atI_1, atI_2, atI_3, atI_4, atI_5, some_ex, bl_ex, int_ex, len_lst, len_tup, mul_ii, add_ii, add_ll, add_tt, add_ss, decide_eq_true_eq, D.tup.injEq, D.lst.injEq, D.dct.injEq, D.str.injEq, D.int.injEq, D.bl.injEq, D.ref.injEq, Nat.zero_add, Nat.add_zero, Nat.sub_self, Nat.add_one_sub_one, Nat.reduceAdd, Nat.reduceSub, cons_ex, pair_ex, sz_0, sz_1, sz_2, sz_3, sz_4, sz_5, sz_6, sz_7, sz_8, true_and, eq_self, if_true, hl, Option.isSome_some, c1, c2, decide_true, decide_false, Bool.false_eq_true, if_false]
                refine rEq_was ?_
                simp only [t1, get_kref w1, rIntC, dSeq, dIfS, dTb, d2, d1, dVar, dC, dRet, dSet, dPut, dNext, dCB, dCons, dNil, dTup, dLst, dCall, dAnd, dOr, dNot, dAndV, dOrV, dNotV, dChain, dDrop, dIf, dgName, dgNil, dgCons, dgTup, dAsg, dPar, startD, wipeD, List.map_cons, List.map_nil, List.length_cons, List.length_nil, List.replicate, List.cons_append, List.nil_append, List.append_nil, List.getElem?_cons_zero, List.getElem?_cons_succ, Option.some.injEq, exists_eq_left', exists_eq_left, List.set_cons_zero, List.set_cons_succ, rEq_ii, rEq_ss, rNe_ss, rI1_ii, rI2_ii, DL.ix_lst, DL.ix_tup, atI_0, atI_1, atI_2, atI_3, atI_4, atI_5, some_ex, bl_ex, int_ex, len_lst, len_tup, mul_ii, add_ii, add_ll, add_tt, add_ss, decide_eq_true_eq, D.tup.injEq, D.lst.injEq, D.dct.injEq, D.str.injEq, D.int.injEq, D.bl.injEq, D.ref.injEq, Nat.zero_add, Nat.add_zero, Nat.sub_self, Nat.add_one_sub_one, Nat.reduceAdd, Nat.reduceSub, cons_ex, pair_ex, sz_0, sz_1, sz_2, sz_3, sz_4, sz_5, sz_6, sz_7, sz_8, true_and, eq_self]
                cases hb : wasEq (el.find? fun e => e.part == m.part) m with
                | true =>
                  simp only [if_true, dSeq, dIfS, dTb, d2, d1, dVar, dC, dRet, dSet, dPut, dNext, dCB, dCons, dNil, dTup, dLst, dCall, dAnd, dOr, dNot, dAndV, dOrV, dNotV, dChain, dDrop, dIf, dgName, dgNil, dgCons, dgTup, dAsg, dPar, startD, wipeD, List.map_cons, List.map_nil, List.length_cons, List.length_nil, List.replicate, List.cons_append, List.nil_append, List.append_nil, List.getElem?_cons_zero, List.getElem?_cons_succ, Option.some.injEq, exists_eq_left', exists_eq_left, List.set_cons_zero, List.set_cons_succ, rEq_ii, rEq_ss, rNe_ss, rI1_ii, rI2_ii, DL.ix_lst, DL.ix_tup, atI_0, atI_1, atI_2, atI_3, atI_4, atI_5, some_ex, bl_ex, int_ex, len_lst, len_tup, mul_ii, add_ii, add_ll, add_tt, add_ss, decide_eq_true_eq, D.tup.injEq, D.lst.injEq, D.dct.injEq, D.str.injEq, D.int.injEq, D.bl.injEq, D.ref.injEq, Nat.zero_add, Nat.add_zero, Nat.sub_self, Nat.add_one_sub_one, Nat.reduceAdd, Nat.reduceSub, cons_ex, pair_ex, sz_0, sz_1, sz_2, sz_3, sz_4, sz_5, sz_6, sz_7, sz_8, true_and, eq_self]
                  refine fin _ _ ?_; rw [dueN_eq, hl]; simp [hb]
                | false =>
                  simp only [Bool.false_eq_true, if_false, dSeq, dIfS, dTb, d2, d1, dVar, dC, dRet, dSet, dPut, dNext, dCB, dCons, dNil, dTup, dLst, dCall, dAnd, dOr, dNot, dAndV, dOrV, dNotV, dChain, dDrop, dIf, dgName, dgNil, dgCons, dgTup, dAsg, dPar, startD, wipeD, List.map_cons, List.map_nil, List.length_cons, List.length_nil, List.replicate, List.cons_append, List.nil_append, List.append_nil, List.getElem?_cons_zero, List.getElem?_cons_succ, Option.some.injEq, exists_eq_left', exists_eq_left, List.set_cons_zero, List.set_cons_succ, rEq_ii, rEq_ss, rNe_ss, rI1_ii, rI2_ii, DL.ix_lst, DL.ix_tup, atI_0, atI_1, atI_2, atI_3, atI_4, atI_5, some_ex, bl_ex, int_ex, len_lst, len_tup, mul_ii, add_ii, add_ll, add_tt, add_ss, decide_eq_true_eq, D.tup.injEq, D.lst.injEq, D.dct.injEq, D.str.injEq, D.int.injEq, D.bl.injEq, D.ref.injEq, Nat.zero_add, Nat.add_zero, Nat.sub_self, Nat.add_one_sub_one, Nat.reduceAdd, Nat.reduceSub, cons_ex, pair_ex, sz_0, sz_1, sz_2, sz_3, sz_4, sz_5, sz_6, sz_7, sz_8, true_and, eq_self]
                  refine fin _ _ ?_; rw [dueN_eq, hl]; simp [hb, c2]
            · simp only [t_law_due_b0, Row.d, in_kref w1, ix_kref w1, get_kref w1, get_mref w3, t1, t3, dBM, rIntC, if_neg e2, ix_mkE (show dicOf S5 (.ref p2) = some (makesD nw) by simp only [dicOf, hp5]) hn.parts mm, dSeq, dIfS, dTb, d2, d1, dVar, dC, dRet, dSet, dPut, dNext, dCB, dCons, dNil, dTup, dLst, dCall, dAnd, dOr, dNot, dAndV, dOrV, dNotV, dChain, dDrop, dIf, dgName, dgNil, dgCons, dgTup, dAsg, dPar, startD, wipeD, List.map_cons, List.map_nil, List.length_cons, List.length_nil, List.replicate, List.cons_append, List.nil_append, List.append_nil, List.getElem?_cons_zero, List.getElem?_cons_succ, Option.some.injEq, exists_eq_left', exists_eq_left, List.set_cons_zero, List.set_cons_succ, rEq_ii, rEq_ss, rNe_ss, rI1_ii, rI2_ii, DL.ix_lst, DL.ix_tup, atI_0, atI_1, atI_2, atI_3, atI_4, atI_5, some_ex, bl_ex, int_ex, len_lst, len_tup, mul_ii, add_ii, add_ll, add_tt, add_ss, decide_eq_true_eq, D.tup.injEq, D.lst.injEq, D.dct.injEq, D.str.injEq, D.int.injEq, D.bl.injEq, D.ref.injEq, Nat.zero_add, Nat.add_zero, Nat.sub_self, Nat.add_one_sub_one, Nat.reduceAdd, Nat.reduceSub, cons_ex, pair_ex, sz_0, sz_1, sz_2, sz_3, sz_4, sz_5, sz_6, sz_7, sz_8, true_and, eq_self, if_true, hl, Option.isSome_some, c1, decide_true, decide_false, Bool.false_eq_true, if_false]
              refine rEq_was ?_
              simp only [t1, get_kref w1, rIntC, dSeq, dIfS, dTb, d2, d1, dVar, dC, dRet, dSet, dPut, dNext, dCB, dCons, dNil, dTup, dLst, dCall, dAnd, dOr, dNot, dAndV, dOrV, dNotV, dChain, dDrop, dIf, dgName, dgNil, dgCons, dgTup, dAsg, dPar, startD, wipeD, List.map_cons, List.map_nil, List.length_cons, List.length_nil, List.replicate, List.cons_append, List.nil_append, List.append_nil, List.getElem?_cons_zero, List.getElem?_cons_succ, Option.some.injEq, exists_eq_left', exists_eq_left, List.set_cons_zero, List.set_cons_succ, rEq_ii, rEq_ss, rNe_ss, rI1_ii, rI2_ii, DL.ix_lst, DL.ix_tup, atI_0, atI_1, atI_2, atI_3, atI_4, atI_5, some_ex, bl_ex, int_ex, len_lst, len_tup, mul_ii, add_ii, add_ll, add_tt, add_ss, decide_eq_true_eq, D.tup.injEq, D.lst.injEq, D.dct.injEq, D.str.injEq, D.int.injEq, D.bl.injEq, D.ref.injEq, Nat.zero_add, Nat.add_zero, Nat.sub_self, Nat.add_one_sub_one, Nat.reduceAdd, Nat.reduceSub, cons_ex, pair_ex, sz_0, sz_1, sz_2, sz_3, sz_4, sz_5, sz_6, sz_7, sz_8, true_and, eq_self]
              cases hb : wasEq (el.find? fun e => e.part == m.part) m with
              | true =>
                simp only [if_true, dSeq, dIfS, dTb, d2, d1, dVar, dC, dRet, dSet, dPut, dNext, dCB, dCons, dNil, dTup, dLst, dCall, dAnd, dOr, dNot, dAndV, dOrV, dNotV, dChain, dDrop, dIf, dgName, dgNil, dgCons, dgTup, dAsg, dPar, startD, wipeD, List.map_cons, List.map_nil, List.length_cons, List.length_nil, List.replicate, List.cons_append, List.nil_append, List.append_nil, List.getElem?_cons_zero, List.getElem?_cons_succ, Option.some.injEq, exists_eq_left', exists_eq_left, List.set_cons_zero, List.set_cons_succ, rEq_ii, rEq_ss, rNe_ss, rI1_ii, rI2_ii, DL.ix_lst, DL.ix_tup, atI_0, atI_1, atI_2, atI_3, atI_4, atI_5, some_ex, bl_ex, int_ex, len_lst, len_tup, mul_ii, add_ii, add_ll, add_tt, add_ss, decide_eq_true_eq, D.tup.injEq, D.lst.injEq, D.dct.injEq, D.str.injEq, D.int.injEq, D.bl.injEq, D.ref.injEq, Nat.zero_add, Nat.add_zero, Nat.sub_self, Nat.add_one_sub_one, Nat.reduceAdd, Nat.reduceSub, cons_ex, pair_ex, sz_0, sz_1, sz_2, sz_3, sz_4, sz_5, sz_6, sz_7, sz_8, true_and, eq_self]
                refine fin _ _ ?_; rw [dueN_eq, hl]; simp [hb]
              | false =>
                simp only [Bool.false_eq_true, if_false, dSeq, dIfS, dTb, d2, d1, dVar, dC, dRet, dSet, dPut, dNext, dCB, dCons, dNil, dTup, dLst, dCall, dAnd, dOr, dNot, dAndV, dOrV, dNotV, dChain, dDrop, dIf, dgName, dgNil, dgCons, dgTup, dAsg, dPar, startD, wipeD, List.map_cons, List.map_nil, List.length_cons, List.length_nil, List.replicate, List.cons_append, List.nil_append, List.append_nil, List.getElem?_cons_zero, List.getElem?_cons_succ, Option.some.injEq, exists_eq_left', exists_eq_left, List.set_cons_zero, List.set_cons_succ, rEq_ii, rEq_ss, rNe_ss, rI1_ii, rI2_ii, DL.ix_lst, DL.ix_tup, atI_0, atI_1, atI_2, atI_3, atI_4, atI_5, some_ex, bl_ex, int_ex, len_lst, len_tup, mul_ii, add_ii, add_ll, add_tt, add_ss, decide_eq_true_eq, D.tup.injEq, D.lst.injEq, D.dct.injEq, D.str.injEq, D.int.injEq, D.bl.injEq, D.ref.injEq, Nat.zero_add, Nat.add_zero, Nat.sub_self, Nat.add_one_sub_one, Nat.reduceAdd, Nat.reduceSub, cons_ex, pair_ex, sz_0, sz_1, sz_2, sz_3, sz_4, sz_5, sz_6, sz_7, sz_8, true_and, eq_self]
                refine fin _ _ ?_; rw [dueN_eq, hl]; simp [hb, c1]
          · simp only [t_law_due_b0, Row.d, in_kref w1, ix_kref w1, get_kref w1, get_mref w3, t1, t3, dBM, rIntC, if_neg e2, ix_mkE (show dicOf S5 (.ref p2) = some (makesD nw) by simp only [dicOf, hp5]) hn.parts mm, dSeq, dIfS, dTb, d2, d1, dVar, dC, dRet, dSet, dPut, dNext, dCB, dCons, dNil, dTup, dLst, dCall, dAnd, dOr, dNot, dAndV, dOrV, dNotV, dChain, dDrop, dIf, dgName, dgNil, dgCons, dgTup, dAsg, dPar, startD, wipeD, List.map_cons, List.map_nil, List.length_cons, List.length_nil, List.replicate, List.cons_append, List.nil_append, List.append_nil, List.getElem?_cons_zero, List.getElem?_cons_succ, Option.some.injEq, exists_eq_left', exists_eq_left, List.set_cons_zero, List.set_cons_succ, rEq_ii, rEq_ss, rNe_ss, rI1_ii, rI2_ii, DL.ix_lst, DL.ix_tup, atI_0, atI_1, atI_2, atI_3, atI_4, atI_5, some_ex, bl_ex, int_ex, len_lst, len_tup, mul_ii, add_ii, add_ll, add_tt, add_ss, decide_eq_true_eq, D.tup.injEq, D.lst.injEq, D.dct.injEq, D.str.injEq, D.int.injEq, D.bl.injEq, D.ref.injEq, Nat.zero_add, Nat.add_zero, Nat.sub_self, Nat.add_one_sub_one, Nat.reduceAdd, Nat.reduceSub, cons_ex, pair_ex, sz_0, sz_1, sz_2, sz_3, sz_4, sz_5, sz_6, sz_7, sz_8, true_and, eq_self, if_true, hl, Option.isSome_some, c0, decide_true, decide_false, Bool.false_eq_true, if_false]
            refine rEq_was ?_
            simp only [t1, get_kref w1, rIntC, dSeq, dIfS, dTb, d2, d1, dVar, dC, dRet, dSet, dPut, dNext, dCB, dCons, dNil, dTup, dLst, dCall, dAnd, dOr, dNot, dAndV, dOrV, dNotV, dChain, dDrop, dIf, dgName, dgNil, dgCons, dgTup, dAsg, dPar, startD, wipeD, List.map_cons, List.map_nil, List.length_cons, List.length_nil, List.replicate, List.cons_append, List.nil_append, List.append_nil, List.getElem?_cons_zero, List.getElem?_cons_succ, Option.some.injEq, exists_eq_left', exists_eq_left, List.set_cons_zero, List.set_cons_succ, rEq_ii, rEq_ss, rNe_ss, rI1_ii, rI2_ii, DL.ix_lst, DL.ix_tup, atI_0, atI_1, atI_2, atI_3, atI_4, atI_5, some_ex, bl_ex, int_ex, len_lst, len_tup, mul_ii, add_ii, add_ll, add_tt, add_ss, decide_eq_true_eq, D.tup.injEq, D.lst.injEq, D.dct.injEq, D.str.injEq, D.int.injEq, D.bl.injEq, D.ref.injEq, Nat.zero_add, Nat.add_zero, Nat.sub_self, Nat.add_one_sub_one, Nat.reduceAdd, Nat.reduceSub, cons_ex, pair_ex, sz_0, sz_1, sz_2, sz_3, sz_4, sz_5, sz_6, sz_7, sz_8, true_and, eq_self]
            cases hb : wasEq (el.find? fun e => e.part == m.part) m with
            | true =>
              simp only [if_true, dSeq, dIfS, dTb, d2, d1, dVar, dC, dRet, dSet, dPut, dNext, dCB, dCons, dNil, dTup, dLst, dCall, dAnd, dOr, dNot, dAndV, dOrV, dNotV, dChain, dDrop, dIf, dgName, dgNil, dgCons, dgTup, dAsg, dPar, startD, wipeD, List.map_cons, List.map_nil, List.length_cons, List.length_nil, List.replicate, List.cons_append, List.nil_append, List.append_nil, List.getElem?_cons_zero, List.getElem?_cons_succ, Option.some.injEq, exists_eq_left', exists_eq_left, List.set_cons_zero, List.set_cons_succ, rEq_ii, rEq_ss, rNe_ss, rI1_ii, rI2_ii, DL.ix_lst, DL.ix_tup, atI_0, atI_1, atI_2, atI_3, atI_4, atI_5, some_ex, bl_ex, int_ex, len_lst, len_tup, mul_ii, add_ii, add_ll, add_tt, add_ss, decide_eq_true_eq, D.tup.injEq, D.lst.injEq, D.dct.injEq, D.str.injEq, D.int.injEq, D.bl.injEq, D.ref.injEq, Nat.zero_add, Nat.add_zero, Nat.sub_self, Nat.add_one_sub_one, Nat.reduceAdd, Nat.reduceSub, cons_ex, pair_ex, sz_0, sz_1, sz_2, sz_3, sz_4, sz_5, sz_6, sz_7, sz_8, true_and, eq_self]
              refine fin _ _ ?_; rw [dueN_eq, hl]; simp [hb]
            | false =>
              simp only [Bool.false_eq_true, if_false, dSeq, dIfS, dTb, d2, d1, dVar, dC, dRet, dSet, dPut, dNext, dCB, dCons, dNil, dTup, dLst, dCall, dAnd, dOr, dNot, dAndV, dOrV, dNotV, dChain, dDrop, dIf, dgName, dgNil, dgCons, dgTup, dAsg, dPar, startD, wipeD, List.map_cons, List.map_nil, List.length_cons, List.length_nil, List.replicate, List.cons_append, List.nil_append, List.append_nil, List.getElem?_cons_zero, List.getElem?_cons_succ, Option.some.injEq, exists_eq_left', exists_eq_left, List.set_cons_zero, List.set_cons_succ, rEq_ii, rEq_ss, rNe_ss, rI1_ii, rI2_ii, DL.ix_lst, DL.ix_tup, atI_0, atI_1, atI_2, atI_3, atI_4, atI_5, some_ex, bl_ex, int_ex, len_lst, len_tup, mul_ii, add_ii, add_ll, add_tt, add_ss, decide_eq_true_eq, D.tup.injEq, D.lst.injEq, D.dct.injEq, D.str.injEq, D.int.injEq, D.bl.injEq, D.ref.injEq, Nat.zero_add, Nat.add_zero, Nat.sub_self, Nat.add_one_sub_one, Nat.reduceAdd, Nat.reduceSub, cons_ex, pair_ex, sz_0, sz_1, sz_2, sz_3, sz_4, sz_5, sz_6, sz_7, sz_8, true_and, eq_self]
              refine fin _ _ ?_; rw [dueN_eq, hl]; simp [hb, c0]
    · rintro G' S5 ⟨⟨c, d, e, rfl⟩, g1, g2, hp5, k5⟩
      refine ⟨trivial, k _ _ ⟨⟨_, _, _, _, rfl⟩, ?_, ?_, hp5, k5⟩⟩
      · rw [g1, dueKeys_eq, dueKeys_eq]; simp
      · rw [g2, dueShelves_eq, dueShelves_eq]; simp
  · rintro G' S4 ⟨⟨a, c, d, e, rfl⟩, g1, g2, hp4, k4⟩
    refine ⟨hp4, ?_⟩
    simp only [dSeq, dIfS, dTb, d2, d1, dVar, dC, dRet, dSet, dPut, dNext, dCB, dCons, dNil, dTup, dLst, dCall, dAnd, dOr, dNot, dAndV, dOrV, dNotV, dChain, dDrop, dIf, dgName, dgNil, dgCons, dgTup, dAsg, dPar, startD, wipeD, List.map_cons, List.map_nil, List.length_cons, List.length_nil, List.replicate, List.cons_append, List.nil_append, List.append_nil, List.getElem?_cons_zero, List.getElem?_cons_succ, Option.some.injEq, exists_eq_left', exists_eq_left, List.set_cons_zero, List.set_cons_succ, rEq_ii, rEq_ss, rNe_ss, rI1_ii, rI2_ii, DL.ix_lst, DL.ix_tup, atI_0, atI_1, atI_2, atI_3, atI_4, atI_5, some_ex, bl_ex, int_ex, len_lst, len_tup, mul_ii, add_ii, add_ll, add_tt, add_ss, decide_eq_true_eq, D.tup.injEq, D.lst.injEq, D.dct.injEq, D.str.injEq, D.int.injEq, D.bl.injEq, D.ref.injEq, Nat.zero_add, Nat.add_zero, Nat.sub_self, Nat.add_one_sub_one, Nat.reduceAdd, Nat.reduceSub, cons_ex, pair_ex, sz_0, sz_1, sz_2, sz_3, sz_4, sz_5, sz_6, sz_7, sz_8, true_and, eq_self]
    exact q r1 r2 S4 hr1 hr2 (Ne.symm n12) g1 g2 (.inr ⟨z, hp4⟩) k4
end K83
namespace K83
open PySem PySem.Spec PyProof.Rows L2 DL
theorem row_step {b : Addr} {w x : Str} {S : Own} {R : DVK} (hw : w = "key" ∨ w = "own") (hb : Bag S b) (q : ∀ r S', RowOf w x r → Bag S' b → Keep S S' [b] → R r.d S') : sp_law_row [.ref b, .str w, .str x] S R fun _ _ _ => False :=
  ⟨b, w, x, rfl, hw, hb, q⟩
theorem row_key {x : Str} {r : Row} (h : RowOf "key" x r) : ∃ lo hi f c, r = .key x lo hi f c ∧ lo ≤ hi ∧ hi ≤ lo + 8 := by
  cases r with
  | on n => exact h.elim
  | key y lo hi f c => obtain ⟨_, rfl, h1, h2⟩ := h; exact ⟨lo, hi, f, c, rfl, h1, h2⟩
  | own y lo hi f => exact absurd h.1 (show ¬ ("key" : Str) = "own" by decide)
theorem row_own {x : Str} {r : Row} (h : RowOf "own" x r) : ∃ lo hi f, r = .own x lo hi f ∧ lo ≤ hi ∧ hi ≤ lo + 8 := by
  cases r with
  | on n => exact h.elim
  | own y lo hi f => obtain ⟨_, rfl, h1, h2⟩ := h; exact ⟨lo, hi, f, rfl, h1, h2⟩
  | key y lo hi f c => exact absurd h.1 (show ¬ ("own" : Str) = "key" by decide)
theorem in_strs {neg : Bool} {x : Str} {ys : List Str} {S : Own} {R : DVK} : rInD neg (.str x) (.lst (ys.map D.str)) S R = R (.bl (if neg = true then !decide (x ∈ ys) else decide (x ∈ ys))) S := by
  have e : inD (.str x) (ys.map D.str) = decide (x ∈ ys) := by
    unfold inD
    induction ys with
    | nil => rfl
    | cons y r ih =>
      rw [List.map_cons, List.any_cons, ih, eqv_str]
      by_cases h : y = x
      · subst h; simp
      · have : ¬ x = y := fun z => h z.symm
        simp [h, this]
  have fl : (ys.map D.str).all flatD = true := by rw [List.all_map, List.all_eq_true]; intro y _; rfl
  unfold rInD
  simp only [e, fl, true_and, show flatD (.str x) = true from rfl]
theorem put_makes {ms : List Make} {m : Make} (h : m.part ∉ ms.map (·.part)) : putD (makesD ms) (.str m.part) m.d = makesD (ms ++ [m]) := by
  unfold putD
  have e : ((makesD ms).any fun p => eqv (.str m.part) p.1) = false := by
    rw [Bool.eq_false_iff]; intro h2
    obtain ⟨p, hp, ep⟩ := List.any_eq_true.mp h2
    unfold makesD at hp
    obtain ⟨e, he, rfl⟩ := List.mem_map.mp hp
    simp only [eqv_str, beq_iff_eq] at ep
    exact h (by rw [ep]; exact List.mem_map_of_mem he)
  rw [e]
  simp [makesD]
theorem flat_rep {α : Type} (a : α) : ∀ n : Nat, (List.replicate n [a]).flatten = List.replicate n a
  | 0 => rfl
  | n + 1 => by rw [List.replicate_succ, List.flatten_cons, flat_rep a n]; rfl
theorem ms_snoc {ms : List Make} {m : Make} (h : MsOk ms) (hm : MOk m) (hp : m.part ∉ ms.map (·.part)) (hl : ms.length ≤ 3) (ho : ∀ x ∈ ownNames m, x ∉ owns ms) (hn : (ownNames m).Nodup) : MsOk (ms ++ [m]) where
  each := fun e he => by
    rcases List.mem_append.mp he with he | he
    · exact h.each e he
    · rw [List.mem_singleton.mp he]; exact hm
  parts := by
    rw [List.map_append, List.nodup_append]
    exact ⟨h.parts, by simp, fun a ha b hb e => by rw [List.map_singleton, List.mem_singleton] at hb; subst hb; subst e; exact hp ha⟩
  few := by rw [List.length_append, List.length_singleton]; omega
  owns := by
    rw [owns_snoc, List.nodup_append]
    exact ⟨h.owns, hn, fun a ha b hb e => by subst e; exact ho a hb ha⟩
theorem rd_law_makes {ds : List D} {S : Own} {R : DVK} {RX : DXK} (h : sp_law_makes ds S R RX) : t_law_makes (En R) (startD N_law_makes ds) S := by
  obtain ⟨b, ns, os, rfl, hl, hnd, hol, hod, hb, q⟩ := h
  have hz := size1000
  simp only [t_law_makes, t_law_makes_s0, t_law_makes_s1, t_law_makes_s2, t_law_makes_s3, dDctO, dFor, diLst, rListC, seqD, dSeq, dIfS, dTb, d2, d1, dVar, dC, dRet, dSet, dPut, dNext, dCB, dCons, dNil, dTup, dLst, dCall, dAnd, dOr, dNot, dAndV, dOrV, dNotV, dChain, dDrop, dIf, dgName, dgNil, dgCons, dgTup, dAsg, dPar, startD, wipeD, List.map_cons, List.map_nil, List.length_cons, List.length_nil, List.replicate, List.cons_append, List.nil_append, List.append_nil, List.getElem?_cons_zero, List.getElem?_cons_succ, Option.some.injEq, exists_eq_left', exists_eq_left, List.set_cons_zero, List.set_cons_succ, rEq_ii, rEq_ss, rNe_ss, rI1_ii, rI2_ii, DL.ix_lst, DL.ix_tup, atI_0, atI_1, atI_2, atI_3, atI_4, atI_5, some_ex, bl_ex, int_ex, len_lst, len_tup, mul_ii, add_ii, add_ll, add_tt, add_ss, decide_eq_true_eq, D.tup.injEq, D.lst.injEq, D.dct.injEq, D.str.injEq, D.int.injEq, D.bl.injEq, D.ref.injEq, Nat.zero_add, Nat.add_zero, Nat.sub_self, Nat.add_one_sub_one, Nat.reduceAdd, Nat.reduceSub, cons_ex, pair_ex, sz_0, sz_1, sz_2, sz_3, sz_4, sz_5, sz_6, sz_7, sz_8, true_and, eq_self]
  intro p hp
  have nbp : p ≠ b := fun e => by obtain ⟨bg, e2, _⟩ := hb; rw [e, e2] at hp; cases hp
  refine forRun_map (all := (["a", "b", "c", "d"] : List Str)) D.str (fun pre G' S' => (∃ ms left x5 x6 x7 x8 x9 x10 x11, G' = [some (.ref b), some (.lst (ns.map D.str)), some (.lst (os.map D.str)), some (.ref p), some (.lst ((left : List Str).map D.str)), x5, x6, x7, x8, x9, x10, x11] ∧ MsOk ms ∧ (∀ x ∈ ms.map (·.part), x ∈ pre) ∧ ms.length ≤ pre.length ∧ left.Nodup ∧ (∀ x ∈ left, x ∉ owns ms) ∧ left.length ≤ 3 ∧ S' p = some (.dct (makesD ms))) ∧ Bag S' b ∧ Keep S S' [b]) ?_ ?_ ?_
  · refine ⟨⟨[], os, _, _, _, _, _, _, _, rfl, ⟨(fun m h => nomatch h), by simp, by simp, by simp [owns]⟩, (fun x h => nomatch h), Nat.le_refl _, hod, (fun x _ h => nomatch h), by omega, Own.put_same⟩, ?_, keep_new hp⟩
    exact hb.keep (keep_new (xs := []) hp) (by simp)
  · rintro pre part post G' S1 K eq ⟨⟨ms, left, x5, x6, x7, x8, x9, x10, x11, rfl, hm, hpre, hml, hld, hlo, hll, hS⟩, b1, k1⟩ k
    refine ⟨trivial, ?_⟩
    have prel : pre.length ≤ 3 := by
      have := congrArg List.length eq
      simp at this; omega
    have pnp : part ∉ pre := by
      have nd : (["a", "b", "c", "d"] : List Str).Nodup := by decide
      rw [eq, List.nodup_append] at nd
      exact fun h => nd.2.2 _ h _ (.head _) rfl
    simp only [t_law_makes_b0, dSeq, dIfS, dTb, d2, d1, dVar, dC, dRet, dSet, dPut, dNext, dCB, dCons, dNil, dTup, dLst, dCall, dAnd, dOr, dNot, dAndV, dOrV, dNotV, dChain, dDrop, dIf, dgName, dgNil, dgCons, dgTup, dAsg, dPar, startD, wipeD, List.map_cons, List.map_nil, List.length_cons, List.length_nil, List.replicate, List.cons_append, List.nil_append, List.append_nil, List.getElem?_cons_zero, List.getElem?_cons_succ, Option.some.injEq, exists_eq_left', exists_eq_left, List.set_cons_zero, List.set_cons_succ, rEq_ii, rEq_ss, rNe_ss, rI1_ii, rI2_ii, DL.ix_lst, DL.ix_tup, atI_0, atI_1, atI_2, atI_3, atI_4, atI_5, some_ex, bl_ex, int_ex, len_lst, len_tup, mul_ii, add_ii, add_ll, add_tt, add_ss, decide_eq_true_eq, D.tup.injEq, D.lst.injEq, D.dct.injEq, D.str.injEq, D.int.injEq, D.bl.injEq, D.ref.injEq, Nat.zero_add, Nat.add_zero, Nat.sub_self, Nat.add_one_sub_one, Nat.reduceAdd, Nat.reduceSub, cons_ex, pair_ex, sz_0, sz_1, sz_2, sz_3, sz_4, sz_5, sz_6, sz_7, sz_8, true_and, eq_self]
    refine take_step b1 (by decide) (by decide) fun v1 S2 a0 a1 b2 k2 => ?_
    try simp only [dSeq, dIfS, dTb, d2, d1, dVar, dC, dRet, dSet, dPut, dNext, dCB, dCons, dNil, dTup, dLst, dCall, dAnd, dOr, dNot, dAndV, dOrV, dNotV, dChain, dDrop, dIf, dgName, dgNil, dgCons, dgTup, dAsg, dPar, startD, wipeD, List.map_cons, List.map_nil, List.length_cons, List.length_nil, List.replicate, List.cons_append, List.nil_append, List.append_nil, List.getElem?_cons_zero, List.getElem?_cons_succ, Option.some.injEq, exists_eq_left', exists_eq_left, List.set_cons_zero, List.set_cons_succ, rEq_ii, rEq_ss, rNe_ss, rI1_ii, rI2_ii, DL.ix_lst, DL.ix_tup, atI_0, atI_1, atI_2, atI_3, atI_4, atI_5, some_ex, bl_ex, int_ex, len_lst, len_tup, mul_ii, add_ii, add_ll, add_tt, add_ss, decide_eq_true_eq, D.tup.injEq, D.lst.injEq, D.dct.injEq, D.str.injEq, D.int.injEq, D.bl.injEq, D.ref.injEq, Nat.zero_add, Nat.add_zero, Nat.sub_self, Nat.add_one_sub_one, Nat.reduceAdd, Nat.reduceSub, cons_ex, pair_ex, sz_0, sz_1, sz_2, sz_3, sz_4, sz_5, sz_6, sz_7, sz_8, true_and, eq_self]
    have kS : ∀ {S' : Own}, Keep S1 S' [b] → S' p = some (.dct (makesD ms)) := fun kk => keep_ne kk hS (by simpa using nbp)
    by_cases hv1 : 0 < v1
    · rw [if_pos hv1]
      refine take_step b2 (by decide) (by decide) fun v2 S3 a2 a3 b3 k3 => ?_
      try simp only [dSeq, dIfS, dTb, d2, d1, dVar, dC, dRet, dSet, dPut, dNext, dCB, dCons, dNil, dTup, dLst, dCall, dAnd, dOr, dNot, dAndV, dOrV, dNotV, dChain, dDrop, dIf, dgName, dgNil, dgCons, dgTup, dAsg, dPar, startD, wipeD, List.map_cons, List.map_nil, List.length_cons, List.length_nil, List.replicate, List.cons_append, List.nil_append, List.append_nil, List.getElem?_cons_zero, List.getElem?_cons_succ, Option.some.injEq, exists_eq_left', exists_eq_left, List.set_cons_zero, List.set_cons_succ, rEq_ii, rEq_ss, rNe_ss, rI1_ii, rI2_ii, DL.ix_lst, DL.ix_tup, atI_0, atI_1, atI_2, atI_3, atI_4, atI_5, some_ex, bl_ex, int_ex, len_lst, len_tup, mul_ii, add_ii, add_ll, add_tt, add_ss, decide_eq_true_eq, D.tup.injEq, D.lst.injEq, D.dct.injEq, D.str.injEq, D.int.injEq, D.bl.injEq, D.ref.injEq, Nat.zero_add, Nat.add_zero, Nat.sub_self, Nat.add_one_sub_one, Nat.reduceAdd, Nat.reduceSub, cons_ex, pair_ex, sz_0, sz_1, sz_2, sz_3, sz_4, sz_5, sz_6, sz_7, sz_8, true_and, eq_self]
      refine take_step b3 (by decide) (by decide) fun v3 S4 a4 a5 b4 k4 => ?_
      simp only [rIntC, rMulD, dLc, diLst, dSeq, dIfS, dTb, d2, d1, dVar, dC, dRet, dSet, dPut, dNext, dCB, dCons, dNil, dTup, dLst, dCall, dAnd, dOr, dNot, dAndV, dOrV, dNotV, dChain, dDrop, dIf, dgName, dgNil, dgCons, dgTup, dAsg, dPar, startD, wipeD, List.map_cons, List.map_nil, List.length_cons, List.length_nil, List.replicate, List.cons_append, List.nil_append, List.append_nil, List.getElem?_cons_zero, List.getElem?_cons_succ, Option.some.injEq, exists_eq_left', exists_eq_left, List.set_cons_zero, List.set_cons_succ, rEq_ii, rEq_ss, rNe_ss, rI1_ii, rI2_ii, DL.ix_lst, DL.ix_tup, atI_0, atI_1, atI_2, atI_3, atI_4, atI_5, some_ex, bl_ex, int_ex, len_lst, len_tup, mul_ii, add_ii, add_ll, add_tt, add_ss, decide_eq_true_eq, D.tup.injEq, D.lst.injEq, D.dct.injEq, D.str.injEq, D.int.injEq, D.bl.injEq, D.ref.injEq, Nat.zero_add, Nat.add_zero, Nat.sub_self, Nat.add_one_sub_one, Nat.reduceAdd, Nat.reduceSub, cons_ex, pair_ex, sz_0, sz_1, sz_2, sz_3, sz_4, sz_5, sz_6, sz_7, sz_8, true_and, eq_self]
      obtain ⟨hrs, eh, hk, ho, hhl, hri, hc⟩ : ∃ hrs : List Row, (List.replicate (if decide (v3 = 0) = true then (1 : Int) else 0).toNat [D.tup [.str "on", .str "ee", .int v2]]).flatten = hrs.map Row.d ∧ hrs.filterMap kn = [] ∧ hrs.filterMap on' = [] ∧ hrs.length ≤ 1 ∧ (∀ r ∈ hrs, RowIn r) ∧ (-(2 ^ 63) ≤ (if decide (v3 = 0) = true then (1 : Int) else 0) ∧ (if decide (v3 = 0) = true then (1 : Int) else 0) < 2 ^ 63 ∧ 1 * (if decide (v3 = 0) = true then (1 : Int) else 0).toNat ≤ sizeLine) := by
        by_cases h0 : v3 = 0
        · exact ⟨[.on v2], by simp [h0, Row.d], rfl, rfl, by simp, fun r h => by rw [List.mem_singleton.mp h]; trivial, by simp [h0]; omega⟩
        · exact ⟨[], by simp [h0], rfl, rfl, by simp, (fun r h => nomatch h), by simp [h0]⟩
      simp only [decide_eq_true_eq] at eh hc
      rw [eh]
      refine ⟨hc, ?_⟩
      refine lcRun_each D.str (fun pre acc S' => (∃ rs : List Row, acc = rs.map Row.d ∧ (rs.filterMap kn).Sublist pre ∧ rs.filterMap on' = [] ∧ rs.length ≤ pre.length ∧ ∀ r ∈ rs, RowIn r) ∧ Bag S' b ∧ Keep S1 S' [b]) ⟨⟨[], rfl, .slnil, rfl, Nat.le_refl _, fun r h => nomatch h⟩, b4, (k2.trans k3).trans k4⟩ (by omega) ?_ ?_
      · rintro npre x npost acc S5 K2 _ ⟨⟨rs, rfl, hs, hon, hrl, hrin⟩, b5, k5⟩ kk1 kk2
        refine ⟨trivial, ?_⟩
        try simp only [dSeq, dIfS, dTb, d2, d1, dVar, dC, dRet, dSet, dPut, dNext, dCB, dCons, dNil, dTup, dLst, dCall, dAnd, dOr, dNot, dAndV, dOrV, dNotV, dChain, dDrop, dIf, dgName, dgNil, dgCons, dgTup, dAsg, dPar, startD, wipeD, List.map_cons, List.map_nil, List.length_cons, List.length_nil, List.replicate, List.cons_append, List.nil_append, List.append_nil, List.getElem?_cons_zero, List.getElem?_cons_succ, Option.some.injEq, exists_eq_left', exists_eq_left, List.set_cons_zero, List.set_cons_succ, rEq_ii, rEq_ss, rNe_ss, rI1_ii, rI2_ii, DL.ix_lst, DL.ix_tup, atI_0, atI_1, atI_2, atI_3, atI_4, atI_5, some_ex, bl_ex, int_ex, len_lst, len_tup, mul_ii, add_ii, add_ll, add_tt, add_ss, decide_eq_true_eq, D.tup.injEq, D.lst.injEq, D.dct.injEq, D.str.injEq, D.int.injEq, D.bl.injEq, D.ref.injEq, Nat.zero_add, Nat.add_zero, Nat.sub_self, Nat.add_one_sub_one, Nat.reduceAdd, Nat.reduceSub, cons_ex, pair_ex, sz_0, sz_1, sz_2, sz_3, sz_4, sz_5, sz_6, sz_7, sz_8, true_and, eq_self]
        refine take_step b5 (by decide) (by decide) fun v4 S6 a6 a7 b6 k6 => ?_
        try simp only [dSeq, dIfS, dTb, d2, d1, dVar, dC, dRet, dSet, dPut, dNext, dCB, dCons, dNil, dTup, dLst, dCall, dAnd, dOr, dNot, dAndV, dOrV, dNotV, dChain, dDrop, dIf, dgName, dgNil, dgCons, dgTup, dAsg, dPar, startD, wipeD, List.map_cons, List.map_nil, List.length_cons, List.length_nil, List.replicate, List.cons_append, List.nil_append, List.append_nil, List.getElem?_cons_zero, List.getElem?_cons_succ, Option.some.injEq, exists_eq_left', exists_eq_left, List.set_cons_zero, List.set_cons_succ, rEq_ii, rEq_ss, rNe_ss, rI1_ii, rI2_ii, DL.ix_lst, DL.ix_tup, atI_0, atI_1, atI_2, atI_3, atI_4, atI_5, some_ex, bl_ex, int_ex, len_lst, len_tup, mul_ii, add_ii, add_ll, add_tt, add_ss, decide_eq_true_eq, D.tup.injEq, D.lst.injEq, D.dct.injEq, D.str.injEq, D.int.injEq, D.bl.injEq, D.ref.injEq, Nat.zero_add, Nat.add_zero, Nat.sub_self, Nat.add_one_sub_one, Nat.reduceAdd, Nat.reduceSub, cons_ex, pair_ex, sz_0, sz_1, sz_2, sz_3, sz_4, sz_5, sz_6, sz_7, sz_8, true_and, eq_self]
        by_cases hv4 : 0 < v4
        · rw [if_pos hv4]
          refine row_step (.inl rfl) b6 fun r S7 hr b7 k7 => ?_
          obtain ⟨lo, hi, f, c, rfl, h1, h2⟩ := row_key hr
          refine kk1 _ _ ⟨⟨rs ++ [.key x lo hi f c], by simp, ?_, ?_, by simp; omega, ?_⟩, b7, (k5.trans k6).trans k7⟩
          · rw [fm_some (f := kn) rfl]; exact List.Sublist.append hs (List.Sublist.refl _)
          · rw [fm_none (f := on') rfl]; exact hon
          · intro r hr
            rcases List.mem_append.mp hr with hr | hr
            · exact hrin r hr
            · rw [List.mem_singleton.mp hr]; exact ⟨h1, h2⟩
        · rw [if_neg hv4]
          exact kk2 _ ⟨⟨rs, rfl, hs.trans (List.sublist_append_left _ _), hon, by simp; omega, hrin⟩, b6, k5.trans k6⟩
      rintro acc S5 ⟨⟨rs, rfl, hs, hon, hrl, hrin⟩, b5, k5⟩
      refine ⟨trivial, ?_⟩
      simp only [List.length_map, dSeq, dIfS, dTb, d2, d1, dVar, dC, dRet, dSet, dPut, dNext, dCB, dCons, dNil, dTup, dLst, dCall, dAnd, dOr, dNot, dAndV, dOrV, dNotV, dChain, dDrop, dIf, dgName, dgNil, dgCons, dgTup, dAsg, dPar, startD, wipeD, List.map_cons, List.map_nil, List.length_cons, List.length_nil, List.replicate, List.cons_append, List.nil_append, List.append_nil, List.getElem?_cons_zero, List.getElem?_cons_succ, Option.some.injEq, exists_eq_left', exists_eq_left, List.set_cons_zero, List.set_cons_succ, rEq_ii, rEq_ss, rNe_ss, rI1_ii, rI2_ii, DL.ix_lst, DL.ix_tup, atI_0, atI_1, atI_2, atI_3, atI_4, atI_5, some_ex, bl_ex, int_ex, len_lst, len_tup, mul_ii, add_ii, add_ll, add_tt, add_ss, decide_eq_true_eq, D.tup.injEq, D.lst.injEq, D.dct.injEq, D.str.injEq, D.int.injEq, D.bl.injEq, D.ref.injEq, Nat.zero_add, Nat.add_zero, Nat.sub_self, Nat.add_one_sub_one, Nat.reduceAdd, Nat.reduceSub, cons_ex, pair_ex, sz_0, sz_1, sz_2, sz_3, sz_4, sz_5, sz_6, sz_7, sz_8, true_and, eq_self]
      refine ⟨by omega, ?_⟩
      refine lcRun_each D.str (fun pre acc S' => (∃ mine : List Str, acc = mine.map D.str ∧ mine.Sublist pre) ∧ Bag S' b ∧ Keep S1 S' [b]) ⟨⟨[], rfl, .slnil⟩, b5, k5⟩ (by omega) ?_ ?_
      · rintro npre x npost acc S6 K2 _ ⟨⟨mine, rfl, hs⟩, b6, k6⟩ kk1 kk2
        refine ⟨trivial, ?_⟩
        try simp only [dSeq, dIfS, dTb, d2, d1, dVar, dC, dRet, dSet, dPut, dNext, dCB, dCons, dNil, dTup, dLst, dCall, dAnd, dOr, dNot, dAndV, dOrV, dNotV, dChain, dDrop, dIf, dgName, dgNil, dgCons, dgTup, dAsg, dPar, startD, wipeD, List.map_cons, List.map_nil, List.length_cons, List.length_nil, List.replicate, List.cons_append, List.nil_append, List.append_nil, List.getElem?_cons_zero, List.getElem?_cons_succ, Option.some.injEq, exists_eq_left', exists_eq_left, List.set_cons_zero, List.set_cons_succ, rEq_ii, rEq_ss, rNe_ss, rI1_ii, rI2_ii, DL.ix_lst, DL.ix_tup, atI_0, atI_1, atI_2, atI_3, atI_4, atI_5, some_ex, bl_ex, int_ex, len_lst, len_tup, mul_ii, add_ii, add_ll, add_tt, add_ss, decide_eq_true_eq, D.tup.injEq, D.lst.injEq, D.dct.injEq, D.str.injEq, D.int.injEq, D.bl.injEq, D.ref.injEq, Nat.zero_add, Nat.add_zero, Nat.sub_self, Nat.add_one_sub_one, Nat.reduceAdd, Nat.reduceSub, cons_ex, pair_ex, sz_0, sz_1, sz_2, sz_3, sz_4, sz_5, sz_6, sz_7, sz_8, true_and, eq_self]
        refine take_step b6 (by decide) (by decide) fun v4 S7 a6 a7 b7 k7 => ?_
        try simp only [dSeq, dIfS, dTb, d2, d1, dVar, dC, dRet, dSet, dPut, dNext, dCB, dCons, dNil, dTup, dLst, dCall, dAnd, dOr, dNot, dAndV, dOrV, dNotV, dChain, dDrop, dIf, dgName, dgNil, dgCons, dgTup, dAsg, dPar, startD, wipeD, List.map_cons, List.map_nil, List.length_cons, List.length_nil, List.replicate, List.cons_append, List.nil_append, List.append_nil, List.getElem?_cons_zero, List.getElem?_cons_succ, Option.some.injEq, exists_eq_left', exists_eq_left, List.set_cons_zero, List.set_cons_succ, rEq_ii, rEq_ss, rNe_ss, rI1_ii, rI2_ii, DL.ix_lst, DL.ix_tup, atI_0, atI_1, atI_2, atI_3, atI_4, atI_5, some_ex, bl_ex, int_ex, len_lst, len_tup, mul_ii, add_ii, add_ll, add_tt, add_ss, decide_eq_true_eq, D.tup.injEq, D.lst.injEq, D.dct.injEq, D.str.injEq, D.int.injEq, D.bl.injEq, D.ref.injEq, Nat.zero_add, Nat.add_zero, Nat.sub_self, Nat.add_one_sub_one, Nat.reduceAdd, Nat.reduceSub, cons_ex, pair_ex, sz_0, sz_1, sz_2, sz_3, sz_4, sz_5, sz_6, sz_7, sz_8, true_and, eq_self]
        by_cases hv4 : v4 = 0
        · rw [if_pos hv4]
          exact kk1 _ _ ⟨⟨mine ++ [x], by simp, List.Sublist.append hs (List.Sublist.refl _)⟩, b7, k6.trans k7⟩
        · rw [if_neg hv4]
          exact kk2 _ ⟨⟨mine, rfl, hs.trans (List.sublist_append_left _ _)⟩, b7, k6.trans k7⟩
      rintro acc S6 ⟨⟨mine, rfl, hmine⟩, b6, k6⟩
      refine ⟨trivial, ?_⟩
      try simp only [dSeq, dIfS, dTb, d2, d1, dVar, dC, dRet, dSet, dPut, dNext, dCB, dCons, dNil, dTup, dLst, dCall, dAnd, dOr, dNot, dAndV, dOrV, dNotV, dChain, dDrop, dIf, dgName, dgNil, dgCons, dgTup, dAsg, dPar, startD, wipeD, List.map_cons, List.map_nil, List.length_cons, List.length_nil, List.replicate, List.cons_append, List.nil_append, List.append_nil, List.getElem?_cons_zero, List.getElem?_cons_succ, Option.some.injEq, exists_eq_left', exists_eq_left, List.set_cons_zero, List.set_cons_succ, rEq_ii, rEq_ss, rNe_ss, rI1_ii, rI2_ii, DL.ix_lst, DL.ix_tup, atI_0, atI_1, atI_2, atI_3, atI_4, atI_5, some_ex, bl_ex, int_ex, len_lst, len_tup, mul_ii, add_ii, add_ll, add_tt, add_ss, decide_eq_true_eq, D.tup.injEq, D.lst.injEq, D.dct.injEq, D.str.injEq, D.int.injEq, D.bl.injEq, D.ref.injEq, Nat.zero_add, Nat.add_zero, Nat.sub_self, Nat.add_one_sub_one, Nat.reduceAdd, Nat.reduceSub, cons_ex, pair_ex, sz_0, sz_1, sz_2, sz_3, sz_4, sz_5, sz_6, sz_7, sz_8, true_and, eq_self]
      refine lcRun_map D.str (fun x => if x ∈ mine then none else some (.str x)) (by omega) trivial (fun x _ K2 kk => ?_) ?_
      · simp only [in_strs, dSeq, dIfS, dTb, d2, d1, dVar, dC, dRet, dSet, dPut, dNext, dCB, dCons, dNil, dTup, dLst, dCall, dAnd, dOr, dNot, dAndV, dOrV, dNotV, dChain, dDrop, dIf, dgName, dgNil, dgCons, dgTup, dAsg, dPar, startD, wipeD, List.map_cons, List.map_nil, List.length_cons, List.length_nil, List.replicate, List.cons_append, List.nil_append, List.append_nil, List.getElem?_cons_zero, List.getElem?_cons_succ, Option.some.injEq, exists_eq_left', exists_eq_left, List.set_cons_zero, List.set_cons_succ, rEq_ii, rEq_ss, rNe_ss, rI1_ii, rI2_ii, DL.ix_lst, DL.ix_tup, atI_0, atI_1, atI_2, atI_3, atI_4, atI_5, some_ex, bl_ex, int_ex, len_lst, len_tup, mul_ii, add_ii, add_ll, add_tt, add_ss, decide_eq_true_eq, D.tup.injEq, D.lst.injEq, D.dct.injEq, D.str.injEq, D.int.injEq, D.bl.injEq, D.ref.injEq, Nat.zero_add, Nat.add_zero, Nat.sub_self, Nat.add_one_sub_one, Nat.reduceAdd, Nat.reduceSub, cons_ex, pair_ex, sz_0, sz_1, sz_2, sz_3, sz_4, sz_5, sz_6, sz_7, sz_8, true_and, eq_self, if_true]
        by_cases hx : x ∈ mine
        · simpa [hx] using kk
        · simpa [hx] using kk
      have e2 : (left.filterMap fun x => if x ∈ mine then none else some (D.str x)) = (left.filter fun x => !decide (x ∈ mine)).map D.str := by
        clear hld hlo hll hmine
        induction left with
        | nil => rfl
        | cons y r ih => by_cases hy : y ∈ mine <;> simp [hy, ih]
      rw [e2]
      try simp only [dSeq, dIfS, dTb, d2, d1, dVar, dC, dRet, dSet, dPut, dNext, dCB, dCons, dNil, dTup, dLst, dCall, dAnd, dOr, dNot, dAndV, dOrV, dNotV, dChain, dDrop, dIf, dgName, dgNil, dgCons, dgTup, dAsg, dPar, startD, wipeD, List.map_cons, List.map_nil, List.length_cons, List.length_nil, List.replicate, List.cons_append, List.nil_append, List.append_nil, List.getElem?_cons_zero, List.getElem?_cons_succ, Option.some.injEq, exists_eq_left', exists_eq_left, List.set_cons_zero, List.set_cons_succ, rEq_ii, rEq_ss, rNe_ss, rI1_ii, rI2_ii, DL.ix_lst, DL.ix_tup, atI_0, atI_1, atI_2, atI_3, atI_4, atI_5, some_ex, bl_ex, int_ex, len_lst, len_tup, mul_ii, add_ii, add_ll, add_tt, add_ss, decide_eq_true_eq, D.tup.injEq, D.lst.injEq, D.dct.injEq, D.str.injEq, D.int.injEq, D.bl.injEq, D.ref.injEq, Nat.zero_add, Nat.add_zero, Nat.sub_self, Nat.add_one_sub_one, Nat.reduceAdd, Nat.reduceSub, cons_ex, pair_ex, sz_0, sz_1, sz_2, sz_3, sz_4, sz_5, sz_6, sz_7, sz_8, true_and, eq_self]
      have hml3 : mine.length ≤ 3 := Nat.le_trans hmine.length_le hll
      refine lcRun_each D.str (fun pre acc S' => (∃ rs : List Row, acc = rs.map Row.d ∧ rs.filterMap kn = [] ∧ rs.filterMap on' = pre ∧ rs.length = pre.length ∧ ∀ r ∈ rs, RowIn r) ∧ Bag S' b ∧ Keep S1 S' [b]) ⟨⟨[], rfl, rfl, rfl, rfl, fun r h => nomatch h⟩, b6, k6⟩ (by omega) ?_ ?_
      · rintro npre x npost acc S7 K2 _ ⟨⟨rs2, rfl, h1, h2, h3, h4⟩, b7, k7⟩ kk1 kk2
        refine ⟨trivial, ?_⟩
        simp only [dYes, dSeq, dIfS, dTb, d2, d1, dVar, dC, dRet, dSet, dPut, dNext, dCB, dCons, dNil, dTup, dLst, dCall, dAnd, dOr, dNot, dAndV, dOrV, dNotV, dChain, dDrop, dIf, dgName, dgNil, dgCons, dgTup, dAsg, dPar, startD, wipeD, List.map_cons, List.map_nil, List.length_cons, List.length_nil, List.replicate, List.cons_append, List.nil_append, List.append_nil, List.getElem?_cons_zero, List.getElem?_cons_succ, Option.some.injEq, exists_eq_left', exists_eq_left, List.set_cons_zero, List.set_cons_succ, rEq_ii, rEq_ss, rNe_ss, rI1_ii, rI2_ii, DL.ix_lst, DL.ix_tup, atI_0, atI_1, atI_2, atI_3, atI_4, atI_5, some_ex, bl_ex, int_ex, len_lst, len_tup, mul_ii, add_ii, add_ll, add_tt, add_ss, decide_eq_true_eq, D.tup.injEq, D.lst.injEq, D.dct.injEq, D.str.injEq, D.int.injEq, D.bl.injEq, D.ref.injEq, Nat.zero_add, Nat.add_zero, Nat.sub_self, Nat.add_one_sub_one, Nat.reduceAdd, Nat.reduceSub, cons_ex, pair_ex, sz_0, sz_1, sz_2, sz_3, sz_4, sz_5, sz_6, sz_7, sz_8, true_and, eq_self, if_true]
        refine row_step (.inr rfl) b7 fun r S8 hr b8 k8 => ?_
        obtain ⟨lo, hi, f, rfl, g1, g2⟩ := row_own hr
        refine kk1 _ _ ⟨⟨rs2 ++ [.own x lo hi f], by simp, ?_, ?_, by simp; omega, ?_⟩, b8, k7.trans k8⟩
        · rw [fm_none (f := kn) rfl]; exact h1
        · rw [fm_some (f := on') rfl, h2]
        · intro r hr
          rcases List.mem_append.mp hr with hr | hr
          · exact h4 r hr
          · rw [List.mem_singleton.mp hr]; exact ⟨g1, g2⟩
      rintro acc S7 ⟨⟨rs2, rfl, h1, h2, h3, h4⟩, b7, k7⟩
      refine ⟨trivial, ?_⟩
      simp only [List.length_map, List.length_append, rMulD, dSeq, dIfS, dTb, d2, d1, dVar, dC, dRet, dSet, dPut, dNext, dCB, dCons, dNil, dTup, dLst, dCall, dAnd, dOr, dNot, dAndV, dOrV, dNotV, dChain, dDrop, dIf, dgName, dgNil, dgCons, dgTup, dAsg, dPar, startD, wipeD, List.map_cons, List.map_nil, List.length_cons, List.length_nil, List.replicate, List.cons_append, List.nil_append, List.append_nil, List.getElem?_cons_zero, List.getElem?_cons_succ, Option.some.injEq, exists_eq_left', exists_eq_left, List.set_cons_zero, List.set_cons_succ, rEq_ii, rEq_ss, rNe_ss, rI1_ii, rI2_ii, DL.ix_lst, DL.ix_tup, atI_0, atI_1, atI_2, atI_3, atI_4, atI_5, some_ex, bl_ex, int_ex, len_lst, len_tup, mul_ii, add_ii, add_ll, add_tt, add_ss, decide_eq_true_eq, D.tup.injEq, D.lst.injEq, D.dct.injEq, D.str.injEq, D.int.injEq, D.bl.injEq, D.ref.injEq, Nat.zero_add, Nat.add_zero, Nat.sub_self, Nat.add_one_sub_one, Nat.reduceAdd, Nat.reduceSub, cons_ex, pair_ex, sz_0, sz_1, sz_2, sz_3, sz_4, sz_5, sz_6, sz_7, sz_8, true_and, eq_self]
      refine ⟨by omega, ⟨by omega, by omega, by decide⟩, ?_⟩
      refine take_step b7 (by decide) (by decide) fun v5 S8 a8 a9 b8 k8 => ?_
      try simp only [dSeq, dIfS, dTb, d2, d1, dVar, dC, dRet, dSet, dPut, dNext, dCB, dCons, dNil, dTup, dLst, dCall, dAnd, dOr, dNot, dAndV, dOrV, dNotV, dChain, dDrop, dIf, dgName, dgNil, dgCons, dgTup, dAsg, dPar, startD, wipeD, List.map_cons, List.map_nil, List.length_cons, List.length_nil, List.replicate, List.cons_append, List.nil_append, List.append_nil, List.getElem?_cons_zero, List.getElem?_cons_succ, Option.some.injEq, exists_eq_left', exists_eq_left, List.set_cons_zero, List.set_cons_succ, rEq_ii, rEq_ss, rNe_ss, rI1_ii, rI2_ii, DL.ix_lst, DL.ix_tup, atI_0, atI_1, atI_2, atI_3, atI_4, atI_5, some_ex, bl_ex, int_ex, len_lst, len_tup, mul_ii, add_ii, add_ll, add_tt, add_ss, decide_eq_true_eq, D.tup.injEq, D.lst.injEq, D.dct.injEq, D.str.injEq, D.int.injEq, D.bl.injEq, D.ref.injEq, Nat.zero_add, Nat.add_zero, Nat.sub_self, Nat.add_one_sub_one, Nat.reduceAdd, Nat.reduceSub, cons_ex, pair_ex, sz_0, sz_1, sz_2, sz_3, sz_4, sz_5, sz_6, sz_7, sz_8, true_and, eq_self]
      refine take_step b8 (by decide) (by decide) fun v6 S9 a10 a11 b9 k9 => ?_
      simp only [rTupleC, seqD, dSeq, dIfS, dTb, d2, d1, dVar, dC, dRet, dSet, dPut, dNext, dCB, dCons, dNil, dTup, dLst, dCall, dAnd, dOr, dNot, dAndV, dOrV, dNotV, dChain, dDrop, dIf, dgName, dgNil, dgCons, dgTup, dAsg, dPar, startD, wipeD, List.map_cons, List.map_nil, List.length_cons, List.length_nil, List.replicate, List.cons_append, List.nil_append, List.append_nil, List.getElem?_cons_zero, List.getElem?_cons_succ, Option.some.injEq, exists_eq_left', exists_eq_left, List.set_cons_zero, List.set_cons_succ, rEq_ii, rEq_ss, rNe_ss, rI1_ii, rI2_ii, DL.ix_lst, DL.ix_tup, atI_0, atI_1, atI_2, atI_3, atI_4, atI_5, some_ex, bl_ex, int_ex, len_lst, len_tup, mul_ii, add_ii, add_ll, add_tt, add_ss, decide_eq_true_eq, D.tup.injEq, D.lst.injEq, D.dct.injEq, D.str.injEq, D.int.injEq, D.bl.injEq, D.ref.injEq, Nat.zero_add, Nat.add_zero, Nat.sub_self, Nat.add_one_sub_one, Nat.reduceAdd, Nat.reduceSub, cons_ex, pair_ex, sz_0, sz_1, sz_2, sz_3, sz_4, sz_5, sz_6, sz_7, sz_8, true_and, eq_self]
      have kk : Keep S1 S9 [b] := (k7.trans k8).trans k9
      let m : Make := ⟨part, v5, v6, hrs ++ rs ++ rs2, hrs.length⟩
      have ed : D.tup [.str "make", .str part, .tup [.int v5, .int v6], .tup (hrs.map Row.d ++ rs.map Row.d ++ rs2.map Row.d), .tup (List.replicate ((hrs.length : Int)).toNat [D.tup [.str "steps", .tup []]]).flatten] = m.d := by
        rw [flat_rep]; show _ = D.tup _; rw [List.map_append, List.map_append]; rfl
      have ek : keyNames m = rs.filterMap kn := by
        rw [keyNames_eq]; show (hrs ++ rs ++ rs2).filterMap kn = _
        rw [List.filterMap_append, List.filterMap_append, hk, h1]; simp
      have eo : ownNames m = mine := by
        rw [ownNames_eq]; show (hrs ++ rs ++ rs2).filterMap on' = _
        rw [List.filterMap_append, List.filterMap_append, ho, hon, h2]; simp
      have okm : MOk m := ⟨by show (hrs ++ rs ++ rs2).length ≤ 100; rw [List.length_append, List.length_append]; omega, fun r hr => by
          rcases List.mem_append.mp (show r ∈ hrs ++ rs ++ rs2 from hr) with hr | hr
          · rcases List.mem_append.mp hr with hr | hr
            · exact hri r hr
            · exact hrin r hr
          · exact h4 r hr, by rw [ek]; exact hs.nodup hnd, by show hrs.length ≤ 10; omega⟩
      have np : m.part ∉ ms.map (·.part) := fun h => pnp (hpre _ h)
      rw [ed, set_rd (kS kk)]
      refine ⟨rfl, kind_makes, by unfold makesD; rw [List.length_map]; omega, ?_⟩
      rw [put_makes np]
      refine k _ _ ⟨⟨ms ++ [m], _, _, _, _, _, _, _, _, rfl, ms_snoc hm okm np (by omega) (by rw [eo]; exact fun x hx => hlo x (hmine.subset hx)) (by rw [eo]; exact hmine.nodup hld), ?_, by simp; omega, hld.filter _, ?_, Nat.le_trans (List.length_filter_le _ _) hll, Own.put_same⟩, ?_, ?_⟩
      · intro x hx
        rw [List.map_append] at hx
        rcases List.mem_append.mp hx with hx | hx
        · exact List.mem_append_left _ (hpre x hx)
        · rw [List.map_singleton, List.mem_singleton] at hx; subst hx; exact List.mem_append_right _ (.head _)
      · intro x hx
        have hx := List.mem_filter.mp hx
        rw [owns_snoc, eo]
        intro h
        rcases List.mem_append.mp h with h | h
        · exact hlo x hx.1 h
        · simp [h] at hx
      · obtain ⟨bg, e1, e2⟩ := b9
        exact ⟨bg, by rw [Own.put_ne (Ne.symm nbp)]; exact e1, e2⟩
      · intro a o e n
        have : a ≠ p := fun z => by rw [z, hp] at e; cases e
        rw [Own.put_ne this]
        exact kk a o (k1 a o e n) n
    · rw [if_neg hv1]
      exact k _ _ ⟨⟨ms, left, _, _, _, _, _, _, _, rfl, hm, fun x hx => List.mem_append_left _ (hpre x hx), by simp; omega, hld, hlo, hll, kS k2⟩, b2, k1.trans k2⟩
  · rintro G' S1 ⟨⟨ms, left, x5, x6, x7, x8, x9, x10, x11, rfl, hm, hpre, hml, hld, hlo, hll, hS⟩, b1, k1⟩
    refine ⟨trivial, ?_⟩
    try simp only [dSeq, dIfS, dTb, d2, d1, dVar, dC, dRet, dSet, dPut, dNext, dCB, dCons, dNil, dTup, dLst, dCall, dAnd, dOr, dNot, dAndV, dOrV, dNotV, dChain, dDrop, dIf, dgName, dgNil, dgCons, dgTup, dAsg, dPar, startD, wipeD, List.map_cons, List.map_nil, List.length_cons, List.length_nil, List.replicate, List.cons_append, List.nil_append, List.append_nil, List.getElem?_cons_zero, List.getElem?_cons_succ, Option.some.injEq, exists_eq_left', exists_eq_left, List.set_cons_zero, List.set_cons_succ, rEq_ii, rEq_ss, rNe_ss, rI1_ii, rI2_ii, DL.ix_lst, DL.ix_tup, atI_0, atI_1, atI_2, atI_3, atI_4, atI_5, some_ex, bl_ex, int_ex, len_lst, len_tup, mul_ii, add_ii, add_ll, add_tt, add_ss, decide_eq_true_eq, D.tup.injEq, D.lst.injEq, D.dct.injEq, D.str.injEq, D.int.injEq, D.bl.injEq, D.ref.injEq, Nat.zero_add, Nat.add_zero, Nat.sub_self, Nat.add_one_sub_one, Nat.reduceAdd, Nat.reduceSub, cons_ex, pair_ex, sz_0, sz_1, sz_2, sz_3, sz_4, sz_5, sz_6, sz_7, sz_8, true_and, eq_self]
    exact q ms p S1 hm hp hS b1 k1
end K83
namespace K83
open PySem PySem.Spec PyProof.Rows L2 DL
theorem ite_no {c : Prop} [Decidable c] {a b : Prop} (h : ¬ c) (x : b) : if c then a else b := by rw [if_neg h]; exact x
theorem ite_yes {c : Prop} [Decidable c] {a b : Prop} (h : c) (x : a) : if c then a else b := by rw [if_pos h]; exact x
theorem copy_step {m : Nat} {x : D} {S : Own} {R : DVK} (h : noref x = true) (hd : Dep m x) (q : R x S) : sp_law_copy m [x] S R fun _ _ _ => False := ⟨x, x, rfl, .inl ⟨h, rfl⟩, hd, q⟩
theorem rd_law_copy {n : Nat} {ds : List D} {S : Own} {R : DVK} {RX : DXK} {sprec : DSp} (hs : ∀ m, n = m + 1 → sprec = sp_law_copy m) (h : sp_law_copy n ds S R RX) : t_law_copy sprec (En R) (startD N_law_copy ds) S := by
  obtain ⟨d, d', rfl, hc, hd, q⟩ := h
  have hz := size1000
  have tl : "list" ∈ tyNames := by decide
  have tt : "tuple" ∈ tyNames := by decide
  have td : "dict" ∈ tyNames := by decide
  simp only [t_law_copy, t_law_copy_s0, t_law_copy_s1, t_law_copy_s2, t_law_copy_s3, rIsInst, dLc, diLst, diTup, diKeys, dSeq, dIfS, dTb, d2, d1, dVar, dC, dRet, dSet, dPut, dNext, dCB, dCons, dNil, dTup, dLst, dCall, dAnd, dOr, dNot, dAndV, dOrV, dNotV, dChain, dDrop, dIf, dgName, dgNil, dgCons, dgTup, dAsg, dPar, startD, wipeD, List.map_cons, List.map_nil, List.length_cons, List.length_nil, List.replicate, List.cons_append, List.nil_append, List.append_nil, List.getElem?_cons_zero, List.getElem?_cons_succ, Option.some.injEq, exists_eq_left', exists_eq_left, List.set_cons_zero, List.set_cons_succ, rEq_ii, rEq_ss, rNe_ss, rI1_ii, rI2_ii, DL.ix_lst, DL.ix_tup, atI_0, atI_1, atI_2, atI_3, atI_4, atI_5, some_ex, bl_ex, int_ex, len_lst, len_tup, mul_ii, add_ii, add_ll, add_tt, add_ss, decide_eq_true_eq, D.tup.injEq, D.lst.injEq, D.dct.injEq, D.str.injEq, D.int.injEq, D.bl.injEq, D.ref.injEq, Nat.zero_add, Nat.add_zero, Nat.sub_self, Nat.add_one_sub_one, Nat.reduceAdd, Nat.reduceSub, cons_ex, pair_ex, sz_0, sz_1, sz_2, sz_3, sz_4, sz_5, sz_6, sz_7, sz_8, true_and, eq_self]
  rcases hc with ⟨hn, rfl⟩ | ⟨a, ds, rfl, ha, hn, rfl⟩
  · cases d' with
    | non => exact ⟨_, rfl, tl, ite_no (by decide) ⟨_, rfl, tt, ite_no (by decide) ⟨_, rfl, td, ite_no (by decide) q⟩⟩⟩
    | bl _ => exact ⟨_, rfl, tl, ite_no (by decide) ⟨_, rfl, tt, ite_no (by decide) ⟨_, rfl, td, ite_no (by decide) q⟩⟩⟩
    | int _ => exact ⟨_, rfl, tl, ite_no (by decide) ⟨_, rfl, tt, ite_no (by decide) ⟨_, rfl, td, ite_no (by decide) q⟩⟩⟩
    | str _ => exact ⟨_, rfl, tl, ite_no (by decide) ⟨_, rfl, tt, ite_no (by decide) ⟨_, rfl, td, ite_no (by decide) q⟩⟩⟩
    | ty _ => cases hn
    | ref _ => cases hn
    | lst ds =>
      cases n with
      | zero => exact hd.elim
      | succ m =>
        cases hs m rfl
        refine ⟨_, rfl, tl, ite_yes (by decide) ?_⟩
        refine lcRun_pure some (by have := hd.2; omega) trivial (fun x hx K k => ?_) ?_
        · simp only [dYes, dSeq, dIfS, dTb, d2, d1, dVar, dC, dRet, dSet, dPut, dNext, dCB, dCons, dNil, dTup, dLst, dCall, dAnd, dOr, dNot, dAndV, dOrV, dNotV, dChain, dDrop, dIf, dgName, dgNil, dgCons, dgTup, dAsg, dPar, startD, wipeD, List.map_cons, List.map_nil, List.length_cons, List.length_nil, List.replicate, List.cons_append, List.nil_append, List.append_nil, List.getElem?_cons_zero, List.getElem?_cons_succ, Option.some.injEq, exists_eq_left', exists_eq_left, List.set_cons_zero, List.set_cons_succ, rEq_ii, rEq_ss, rNe_ss, rI1_ii, rI2_ii, DL.ix_lst, DL.ix_tup, atI_0, atI_1, atI_2, atI_3, atI_4, atI_5, some_ex, bl_ex, int_ex, len_lst, len_tup, mul_ii, add_ii, add_ll, add_tt, add_ss, decide_eq_true_eq, D.tup.injEq, D.lst.injEq, D.dct.injEq, D.str.injEq, D.int.injEq, D.bl.injEq, D.ref.injEq, Nat.zero_add, Nat.add_zero, Nat.sub_self, Nat.add_one_sub_one, Nat.reduceAdd, Nat.reduceSub, cons_ex, pair_ex, sz_0, sz_1, sz_2, sz_3, sz_4, sz_5, sz_6, sz_7, sz_8, true_and, eq_self, if_true]
          exact copy_step (norefs_mem hn x hx) (hd.1 x hx) k
        · rw [List.filterMap_some]; exact q
    | tup ds =>
      cases n with
      | zero => exact hd.elim
      | succ m =>
        cases hs m rfl
        refine ⟨_, rfl, tl, ite_no (by decide) ⟨_, rfl, tt, ite_yes (by decide) ⟨ds, rfl, ?_⟩⟩⟩
        refine lcRun_pure some (by have := hd.2; omega) trivial (fun x hx K k => ?_) ?_
        · simp only [dYes, dSeq, dIfS, dTb, d2, d1, dVar, dC, dRet, dSet, dPut, dNext, dCB, dCons, dNil, dTup, dLst, dCall, dAnd, dOr, dNot, dAndV, dOrV, dNotV, dChain, dDrop, dIf, dgName, dgNil, dgCons, dgTup, dAsg, dPar, startD, wipeD, List.map_cons, List.map_nil, List.length_cons, List.length_nil, List.replicate, List.cons_append, List.nil_append, List.append_nil, List.getElem?_cons_zero, List.getElem?_cons_succ, Option.some.injEq, exists_eq_left', exists_eq_left, List.set_cons_zero, List.set_cons_succ, rEq_ii, rEq_ss, rNe_ss, rI1_ii, rI2_ii, DL.ix_lst, DL.ix_tup, atI_0, atI_1, atI_2, atI_3, atI_4, atI_5, some_ex, bl_ex, int_ex, len_lst, len_tup, mul_ii, add_ii, add_ll, add_tt, add_ss, decide_eq_true_eq, D.tup.injEq, D.lst.injEq, D.dct.injEq, D.str.injEq, D.int.injEq, D.bl.injEq, D.ref.injEq, Nat.zero_add, Nat.add_zero, Nat.sub_self, Nat.add_one_sub_one, Nat.reduceAdd, Nat.reduceSub, cons_ex, pair_ex, sz_0, sz_1, sz_2, sz_3, sz_4, sz_5, sz_6, sz_7, sz_8, true_and, eq_self, if_true]
          exact copy_step (norefs_mem hn x hx) (hd.1 x hx) k
        · rw [List.filterMap_some]; exact ⟨_, rfl, q⟩
    | dct es =>
      cases n with
      | zero => exact hd.elim
      | succ m =>
        cases hs m rfl
        obtain ⟨h1, h2, h3⟩ := hd
        refine ⟨_, rfl, tl, ite_no (by decide) ⟨_, rfl, tt, ite_no (by decide) ⟨_, rfl, td, ite_yes (by decide) ?_⟩⟩⟩
        refine lcRun_map (fun p : D × D => p.1) (fun p => some (.tup [p.1, p.2])) (by omega) trivial (fun x hx K k => ?_) ?_
        · simp only [dYes, dSeq, dIfS, dTb, d2, d1, dVar, dC, dRet, dSet, dPut, dNext, dCB, dCons, dNil, dTup, dLst, dCall, dAnd, dOr, dNot, dAndV, dOrV, dNotV, dChain, dDrop, dIf, dgName, dgNil, dgCons, dgTup, dAsg, dPar, startD, wipeD, List.map_cons, List.map_nil, List.length_cons, List.length_nil, List.replicate, List.cons_append, List.nil_append, List.append_nil, List.getElem?_cons_zero, List.getElem?_cons_succ, Option.some.injEq, exists_eq_left', exists_eq_left, List.set_cons_zero, List.set_cons_succ, rEq_ii, rEq_ss, rNe_ss, rI1_ii, rI2_ii, DL.ix_lst, DL.ix_tup, atI_0, atI_1, atI_2, atI_3, atI_4, atI_5, some_ex, bl_ex, int_ex, len_lst, len_tup, mul_ii, add_ii, add_ll, add_tt, add_ss, decide_eq_true_eq, D.tup.injEq, D.lst.injEq, D.dct.injEq, D.str.injEq, D.int.injEq, D.bl.injEq, D.ref.injEq, Nat.zero_add, Nat.add_zero, Nat.sub_self, Nat.add_one_sub_one, Nat.reduceAdd, Nat.reduceSub, cons_ex, pair_ex, sz_0, sz_1, sz_2, sz_3, sz_4, sz_5, sz_6, sz_7, sz_8, true_and, eq_self, if_true]
          rw [ix_dic (es := es) rfl]
          exact ⟨h3.key x hx, h3.kind hx, _, h3.look hx, copy_step (norefd_mem hn x hx) (h1 x hx) k⟩
        · have e : (es.filterMap fun p => some (D.tup [p.1, p.2])) = es.map fun p => D.tup [p.1, p.2] := congrFun List.filterMap_eq_map es
          rw [e]
          refine ⟨_, es, rfl, pairsD_of, h3.all, ?_⟩
          rw [mergeD_new (by simpa using h3.key) (by simpa using h3.nodup)]
          exact q
  · cases n with
    | zero => exact hd.elim
    | succ m =>
      cases hs m rfl
      refine ⟨"list", by simp only [tyX, ha], tl, ite_yes (by decide) ?_⟩
      refine ⟨ds, ha, ?_⟩
      refine lcRun_pure some (by have := hd.2; omega) ha (fun x hx K k => ?_) ?_
      · simp only [dYes, dSeq, dIfS, dTb, d2, d1, dVar, dC, dRet, dSet, dPut, dNext, dCB, dCons, dNil, dTup, dLst, dCall, dAnd, dOr, dNot, dAndV, dOrV, dNotV, dChain, dDrop, dIf, dgName, dgNil, dgCons, dgTup, dAsg, dPar, startD, wipeD, List.map_cons, List.map_nil, List.length_cons, List.length_nil, List.replicate, List.cons_append, List.nil_append, List.append_nil, List.getElem?_cons_zero, List.getElem?_cons_succ, Option.some.injEq, exists_eq_left', exists_eq_left, List.set_cons_zero, List.set_cons_succ, rEq_ii, rEq_ss, rNe_ss, rI1_ii, rI2_ii, DL.ix_lst, DL.ix_tup, atI_0, atI_1, atI_2, atI_3, atI_4, atI_5, some_ex, bl_ex, int_ex, len_lst, len_tup, mul_ii, add_ii, add_ll, add_tt, add_ss, decide_eq_true_eq, D.tup.injEq, D.lst.injEq, D.dct.injEq, D.str.injEq, D.int.injEq, D.bl.injEq, D.ref.injEq, Nat.zero_add, Nat.add_zero, Nat.sub_self, Nat.add_one_sub_one, Nat.reduceAdd, Nat.reduceSub, cons_ex, pair_ex, sz_0, sz_1, sz_2, sz_3, sz_4, sz_5, sz_6, sz_7, sz_8, true_and, eq_self, if_true]
        exact copy_step (norefs_mem hn x hx) (hd.1 x hx) k
      · rw [List.filterMap_some]; exact q
end K83
namespace K83
open PySem PySem.Spec PyProof.Rows L2 DL
/-! ### the plain law -/
theorem lookup_iff {α β : Type} [BEq α] [LawfulBEq α] : ∀ {l : List (α × β)} (_ : (l.map (·.1)).Nodup) {k : α} {v : β}, l.lookup k = some v ↔ (k, v) ∈ l
  | [], _, k, v => by simp
  | (a, b) :: r, nd, k, v => by
    have ih := lookup_iff (l := r) (List.nodup_cons.mp nd).2 (k := k) (v := v)
    rw [List.lookup_cons]
    by_cases h : k = a
    · subst h
      simp only [beq_self_eq_true, List.mem_cons, Prod.mk.injEq, true_and]
      constructor
      · intro e; exact .inl (Option.some.inj e).symm
      · rintro (e | e)
        · rw [e]
        · exact absurd (List.mem_map_of_mem (f := (·.1)) e) (List.nodup_cons.mp nd).1
    · rw [show (k == a) = false from by simpa using h]
      simp only [List.mem_cons, Prod.mk.injEq, h, false_and, false_or]
      exact ih
theorem lookup_perm {α β : Type} [BEq α] [LawfulBEq α] {xs ys : List (α × β)} (p : xs.Perm ys) (nd : (xs.map (·.1)).Nodup) (k : α) : xs.lookup k = ys.lookup k := by
  apply Option.ext
  intro v
  rw [lookup_iff nd, lookup_iff ((p.map _).nodup_iff.mp nd)]
  exact p.mem_iff
theorem lookup_some {α β : Type} [BEq α] [LawfulBEq α] : ∀ {l : List (α × β)} {k : α} {v : β}, l.lookup k = some v → k ∈ l.map (·.1)
  | [], k, v, h => by simp at h
  | (a, b) :: r, k, v, h => by
    rw [List.lookup_cons] at h
    by_cases e : k = a
    · subst e; exact .head _
    · rw [show (k == a) = false from by simpa using e] at h
      exact .tail _ (lookup_some h)
theorem lookup_none {α β : Type} [BEq α] [LawfulBEq α] : ∀ {l : List (α × β)} {k : α}, l.lookup k = none → k ∉ l.map (·.1)
  | [], k, h => by simp
  | (a, b) :: r, k, h => by
    rw [List.lookup_cons] at h
    by_cases e : k = a
    · subst e; simp at h
    · rw [show (k == a) = false from by simpa using e] at h
      rw [List.map_cons, List.mem_cons]
      exact fun z => z.elim e (lookup_none h)
theorem row_inj : ∀ {r s : Row}, r.d = s.d → r = s := fun {r s} h => by
  cases r <;> cases s <;> simp [Row.d] at h <;> simp [h]
theorem rows_inj : ∀ {xs ys : List Row}, xs.map Row.d = ys.map Row.d → xs = ys
  | [], [], _ => rfl
  | [], _ :: _, h => by simp at h
  | _ :: _, [], h => by simp at h
  | x :: xs, y :: ys, h => by
    rw [List.map_cons, List.map_cons, List.cons.injEq] at h
    rw [row_inj h.1, rows_inj h.2]
theorem make_rows {e m : Make} (h : eqv e.d m.d = true) : e.part = m.part ∧ e.rows = m.rows := by
  have := eqv_nb (nb_make e) (nb_make m) h
  simp only [Make.d, D.tup.injEq, List.cons.injEq, D.str.injEq, true_and] at this
  exact ⟨this.1, rows_inj this.2.2.1⟩
theorem find_part {ms : List Make} (h : (ms.map (·.part)).Nodup) {m : Make} (hm : m ∈ ms) {x : Str} (e : m.part = x) : (ms.find? fun e => e.part == x) = some m := by
  subst e
  have : (fun e : Make => e.part == m.part) = fun e => m.part == e.part := by funext e; exact Bool.beq_comm
  rw [this]; exact find_makes h hm
theorem mem_spots {ms : List Make} {a x : Str} (h : (a, x) ∈ spots ms) : ∃ m ∈ ms, m.part = a ∧ x ∈ keyNames m := by
  unfold spots at h
  obtain ⟨m, hm, h⟩ := List.mem_flatMap.mp h
  obtain ⟨y, hy, e⟩ := List.mem_map.mp h
  cases e
  exact ⟨m, hm, rfl, hy⟩
theorem spots_mem {ms : List Make} {m : Make} (hm : m ∈ ms) {x : Str} (hx : x ∈ keyNames m) : (m.part, x) ∈ spots ms :=
  List.mem_flatMap.mpr ⟨m, hm, List.mem_map.mpr ⟨x, hx, rfl⟩⟩
theorem kept_due {ks : Keys} {el : List Make} (he : MsOk el) (hk : ks.map (·.1) = spots el) {m : Make} {x : Str} {lo hi f : Int} {c : Str} (hx : x ∈ keyNames m) : keptN ks (el.find? fun e => e.part == m.part) m x lo hi f c = dueN ks el m x lo hi f c := by
  rw [dueN_eq]
  unfold keptN
  cases hl : ks.lookup (m.part, x) with
  | some v =>
    have h := lookup_some hl
    rw [hk] at h
    obtain ⟨e, hem, hep, hex⟩ := mem_spots h
    rw [find_part he.parts hem hep]
    have hh : hasKey e x = true := by unfold hasKey; simpa using hex
    simp only [wasEq, hh, true_and, Option.getD_some]
    by_cases h1 : eqv e.d m.d = true
    · simp [h1]
    · by_cases h2 : c = "kept"
      · by_cases h3 : lo ≤ v
        · by_cases h4 : v ≤ hi
          · simp [h1, h2, h3, h4]
          · simp [h1, h2, h3, h4]
        · simp [h1, h2, h3]
      · simp [h1, h2]
  | none =>
    have h := lookup_none hl
    rw [hk] at h
    cases hf : el.find? fun e => e.part == m.part with
    | none => simp [wasEq]
    | some e =>
      have hem := List.mem_of_find?_eq_some hf
      have : eqv e.d m.d = false := by
        rw [Bool.eq_false_iff]; intro h1
        obtain ⟨e1, e2⟩ := make_rows h1
        have : x ∈ keyNames e := by rw [keyNames_eq, e2, ← keyNames_eq]; exact hx
        exact h (by rw [← e1]; exact spots_mem hem this)
      simp [wasEq, this]
theorem fm_congr {α β : Type} {f g : α → Option β} : ∀ {l : List α}, (∀ a ∈ l, f a = g a) → l.filterMap f = l.filterMap g
  | [], _ => rfl
  | a :: l, h => by rw [List.filterMap_cons, List.filterMap_cons, h a (.head _), fm_congr fun b m => h b (.tail _ m)]
theorem fl_congr {α β : Type} {f g : α → List β} : ∀ {l : List α}, (∀ a ∈ l, f a = g a) → l.flatMap f = l.flatMap g
  | [], _ => rfl
  | a :: l, h => by rw [List.flatMap_cons, List.flatMap_cons, h a (.head _), fl_congr fun b m => h b (.tail _ m)]
theorem keys_due {ks ks' : Keys} {el nw : List Make} (he : MsOk el) (hk : ks.map (·.1) = spots el) (hp : ks.Perm ks') (nd : (ks.map (·.1)).Nodup) : keysOver ks' el nw = dueKeys ks el nw := by
  rw [dueKeys_eq]
  unfold keysOver
  refine fl_congr fun m _ => ?_
  unfold keysMake
  refine fm_congr fun r hr => ?_
  cases r with
  | key x lo hi f c =>
    have hx : x ∈ keyNames m := by rw [keyNames_eq]; exact List.mem_filterMap.mpr ⟨_, hr, rfl⟩
    have e : keptN ks' (el.find? fun e => e.part == m.part) m x lo hi f c = keptN ks (el.find? fun e => e.part == m.part) m x lo hi f c := by
      unfold keptN; rw [lookup_perm hp nd]
    show some _ = some _
    rw [e, kept_due he hk hx]
  | on n => rfl
  | own x lo hi f => rfl
theorem shelves_due {ss ss' : Shelves} {el nw : List Make} (hs : ss.map (·.1) = owns el) (hp : ss.Perm ss') (nd : (ss.map (·.1)).Nodup) : shelvesOver ss' el nw = dueShelves ss nw := by
  rw [dueShelves_eq]
  unfold shelvesOver
  refine fl_congr fun m _ => ?_
  unfold shelvesMake
  refine fm_congr fun r hr => ?_
  cases r with
  | own x lo hi f =>
    show some _ = some _
    unfold shelfN dueS
    rw [← lookup_perm hp nd]
    cases hl : ss.lookup x with
    | none => rfl
    | some v =>
      have : x ∈ owns el := by rw [← hs]; exact lookup_some hl
      simp [this]
  | on n => rfl
  | key x lo hi f c => rfl
theorem keys_ok {ks : Keys} (nd : (ks.map (·.1)).Nodup) : KeysOk (keysD ks) where
  key := fun p h => by obtain ⟨q, _, rfl⟩ := List.mem_map.mp h; rfl
  like := .inr fun p h => by obtain ⟨q, _, rfl⟩ := List.mem_map.mp h; rfl
  nodup := by
    unfold keysD
    rw [List.map_map]
    have : ((fun p : D × D => p.1) ∘ fun p : Spot × Int => (spotD p.1, D.int p.2)) = spotD ∘ fun p : Spot × Int => p.1 := rfl
    rw [this, ← List.map_map]
    unfold List.Nodup at nd ⊢
    rw [List.pairwise_map]
    refine nd.imp fun {a b} h e => h ?_
    obtain ⟨a1, a2⟩ := a; obtain ⟨b1, b2⟩ := b
    simp [spotD] at e; simp [e]
theorem shelves_ok {ss : Shelves} (nd : (ss.map (·.1)).Nodup) : KeysOk (shelvesD ss) where
  key := fun p h => by obtain ⟨q, _, rfl⟩ := List.mem_map.mp h; rfl
  like := .inl fun p h => by obtain ⟨q, _, rfl⟩ := List.mem_map.mp h; rfl
  nodup := by
    unfold shelvesD
    rw [List.map_map]
    have : ((fun p : D × D => p.1) ∘ fun p : Str × Int => (D.str p.1, D.int p.2)) = D.str ∘ fun p : Str × Int => p.1 := rfl
    rw [this, ← List.map_map]
    unfold List.Nodup at nd ⊢
    rw [List.pairwise_map]
    exact nd.imp fun {a b} h e => h (by simpa using e)
theorem spots_nodup {ms : List Make} (h : MsOk ms) : (spots ms).Nodup := by
  unfold spots List.Nodup
  rw [List.pairwise_flatMap]
  refine ⟨fun m hm => ?_, ?_⟩
  · unfold spotsOf
    rw [List.pairwise_map]
    exact (h.each m hm).keys.imp fun {a b} z e => z (by simpa using e)
  · have := h.parts
    unfold List.Nodup at this
    rw [List.pairwise_map] at this
    refine this.imp fun {a b} z s hs t ht e => z ?_
    obtain ⟨x, _, rfl⟩ := List.mem_map.mp hs
    obtain ⟨y, _, rfl⟩ := List.mem_map.mp ht
    simp at e; exact e.1
theorem told_keys {ks ks' : Keys} {el nw nw' : List Make} (he : MsOk el) (hn : MsOk nw) (hk : ks.map (·.1) = spots el) (hp : ks'.Perm ks) (hq : nw'.Perm nw) (n : Nat) :
    eqv (.dct (keysD (keysOver ks' el nw'))) (.dct (keysD (dueKeys ks el nw))) = true ∧ okE (n + 1) (.dct (keysD (keysOver ks' el nw'))) (.dct (keysD (dueKeys ks el nw))) = true := by
  have nd : (ks.map (·.1)).Nodup := by rw [hk]; exact spots_nodup he
  rw [keys_due he hk hp.symm nd]
  have pm : (keysD (dueKeys ks el nw')).Perm (keysD (dueKeys ks el nw)) := by
    unfold keysD
    refine List.Perm.map _ ?_
    rw [dueKeys_eq, dueKeys_eq]
    exact hq.flatMap_right _
  have ok : KeysOk (keysD (dueKeys ks el nw)) := keys_ok (by rw [dueKeys_fst]; exact spots_nodup hn)
  have ok' := ok.perm pm.symm
  exact ⟨eqv_dct ok' pm fun q m => by obtain ⟨r, _, rfl⟩ := List.mem_map.mp m; simp [eqv], okE_dct ok' pm fun q m => by obtain ⟨r, _, rfl⟩ := List.mem_map.mp m; exact okE_leaf rfl n⟩
theorem told_shelves {ss ss' : Shelves} {el nw nw' : List Make} (he : MsOk el) (hn : MsOk nw) (hs : ss.map (·.1) = owns el) (hp : ss'.Perm ss) (hq : nw'.Perm nw) (n : Nat) :
    eqv (.dct (shelvesD (shelvesOver ss' el nw'))) (.dct (shelvesD (dueShelves ss nw))) = true ∧ okE (n + 1) (.dct (shelvesD (shelvesOver ss' el nw'))) (.dct (shelvesD (dueShelves ss nw))) = true := by
  have nd : (ss.map (·.1)).Nodup := by rw [hs]; exact he.owns
  rw [shelves_due hs hp.symm nd]
  have pm : (shelvesD (dueShelves ss nw')).Perm (shelvesD (dueShelves ss nw)) := by
    unfold shelvesD
    refine List.Perm.map _ ?_
    rw [dueShelves_eq, dueShelves_eq]
    exact hq.flatMap_right _
  have ok : KeysOk (shelvesD (dueShelves ss nw)) := shelves_ok (by rw [dueShelves_fst]; exact hn.owns)
  have ok' := ok.perm pm.symm
  exact ⟨eqv_dct ok' pm fun q m => by obtain ⟨r, _, rfl⟩ := List.mem_map.mp m; simp [eqv], okE_dct ok' pm fun q m => by obtain ⟨r, _, rfl⟩ := List.mem_map.mp m; exact okE_leaf rfl n⟩
/-! ### what is handed in -/
theorem dep_row (r : Row) : Dep 1 r.d := by
  cases r <;> exact ⟨fun d h => by simp only [List.mem_cons, List.not_mem_nil, or_false] at h; rcases h with rfl | rfl | rfl | rfl | rfl | rfl <;> trivial, by simp⟩
theorem dep_make {m : Make} (h : MOk m) : Dep 4 m.d := by
  refine ⟨fun d hd => ?_, by simp⟩
  simp only [List.mem_cons, List.not_mem_nil, or_false] at hd
  rcases hd with rfl | rfl | rfl | rfl | rfl
  · trivial
  · trivial
  · exact ⟨fun d h => by simp only [List.mem_cons, List.not_mem_nil, or_false] at h; rcases h with rfl | rfl <;> trivial, by simp⟩
  · exact ⟨fun d hd => by obtain ⟨r, _, rfl⟩ := List.mem_map.mp hd; exact (dep_row r).mono (by decide), by have := h.few; rw [List.length_map]; omega⟩
  · exact ⟨fun d hd => by
      rw [List.eq_of_mem_replicate hd]
      exact ⟨fun d h => by
        simp only [List.mem_cons, List.not_mem_nil, or_false] at h
        rcases h with rfl | rfl
        · trivial
        · exact ⟨(fun d h => nomatch h), by simp⟩, by simp⟩, by have := h.nb; rw [List.length_replicate]; omega⟩
abbrev handD (ks : Keys) (ss : Shelves) (el nw : List Make) : List D := [.dct (keysD ks), .dct (shelvesD ss), .lst (el.map Make.d), .lst (nw.map Make.d)]
theorem dep_hand {ks : Keys} {ss : Shelves} {el nw : List Make} (nk : (ks.map (·.1)).Nodup) (ns : (ss.map (·.1)).Nodup) (lk : ks.length ≤ 1000) (ls : ss.length ≤ 1000) (he : ∀ m ∈ el, MOk m) (hn : ∀ m ∈ nw, MOk m) (le : el.length ≤ 4) (ln : nw.length ≤ 4) : Dep 6 (.lst (handD ks ss el nw)) := by
  refine ⟨fun d hd => ?_, by simp⟩
  simp only [List.mem_cons, List.not_mem_nil, or_false] at hd
  rcases hd with rfl | rfl | rfl | rfl
  · exact ⟨fun q m => by obtain ⟨r, _, rfl⟩ := List.mem_map.mp m; trivial, by unfold keysD; rw [List.length_map]; exact lk, keys_ok nk⟩
  · exact ⟨fun q m => by obtain ⟨r, _, rfl⟩ := List.mem_map.mp m; trivial, by unfold shelvesD; rw [List.length_map]; exact ls, shelves_ok ns⟩
  · exact ⟨fun d hd => by obtain ⟨m, hm, rfl⟩ := List.mem_map.mp hd; exact dep_make (he m hm), by rw [List.length_map]; omega⟩
  · exact ⟨fun d hd => by obtain ⟨m, hm, rfl⟩ := List.mem_map.mp hd; exact dep_make (hn m hm), by rw [List.length_map]; omega⟩
theorem norefs_all : ∀ {ds : List D}, (∀ d ∈ ds, noref d = true) → norefs ds = true
  | [], _ => rfl
  | d :: ds, h => by unfold norefs; rw [h d (.head _), norefs_all fun x m => h x (.tail _ m)]; rfl
theorem norefd_all : ∀ {es : List (D × D)}, (∀ p ∈ es, noref p.2 = true) → norefd es = true
  | [], _ => rfl
  | (k, d) :: ds, h => by unfold norefd; rw [h (k, d) (.head _), norefd_all fun x m => h x (.tail _ m)]; rfl
theorem noref_keys {ks : Keys} : norefd (keysD ks) = true := norefd_all fun p h => by obtain ⟨r, _, rfl⟩ := List.mem_map.mp h; rfl
theorem noref_shelves {ks : Shelves} : norefd (shelvesD ks) = true := norefd_all fun p h => by obtain ⟨r, _, rfl⟩ := List.mem_map.mp h; rfl
theorem noref_makes {ms : List Make} : norefs (ms.map Make.d) = true := norefs_all fun d h => by obtain ⟨r, _, rfl⟩ := List.mem_map.mp h; exact plD_noref (sh_pl (sh_make r)).1
theorem noref_hand {ks : Keys} {ss : Shelves} {el nw : List Make} : norefs (handD ks ss el nw) = true := by
  simp only [norefs, noref, noref_keys, noref_shelves, noref_makes, Bool.and_self]
end K83
namespace K83
open PySem PySem.Spec PyProof.Rows L2 DL
/-! ### makes that may share shelves -/
structure Semi (ms : List Make) : Prop where
  each : ∀ m ∈ ms, MOk m
  parts : (ms.map (·.part)).Nodup
  few : ms.length ≤ 4
  own : ∀ m ∈ ms, (ownNames m).Nodup
theorem own_nodup {ms : List Make} (h : (owns ms).Nodup) {m : Make} (hm : m ∈ ms) : (ownNames m).Nodup := by
  unfold owns List.Nodup at h
  rw [List.pairwise_flatMap] at h
  exact h.1 m hm
theorem MsOk.semi {ms : List Make} (h : MsOk ms) : Semi ms := ⟨h.each, h.parts, h.few, fun m hm => own_nodup h.owns hm⟩
theorem MsOk.perm {ms ns : List Make} (h : MsOk ms) (p : ms.Perm ns) : MsOk ns :=
  ⟨fun m hm => h.each m (p.mem_iff.mpr hm), (p.map _).nodup_iff.mp h.parts, by rw [← p.length_eq]; exact h.few, by
    have : (K83.owns ms).Perm (K83.owns ns) := p.flatMap_right _
    exact this.nodup_iff.mp h.owns⟩
def swapM (nw : List Make) (x : Str) (e : Make) : List Make := nw.map fun m => if m.part = x then e else m
theorem put_makes2 {nw : List Make} {e : Make} (h : e.part ∈ nw.map (·.part)) : putD (makesD nw) (.str e.part) e.d = makesD (swapM nw e.part e) := by
  unfold putD
  have h1 : ((makesD nw).any fun p => eqv (.str e.part) p.1) = true := by
    obtain ⟨m, hm, hp⟩ := List.mem_map.mp h
    refine List.any_eq_true.mpr ⟨(.str m.part, m.d), List.mem_map.mpr ⟨m, hm, rfl⟩, ?_⟩
    simp only [eqv_str, hp]; simp
  rw [if_pos h1]
  unfold makesD swapM
  rw [List.map_map, List.map_map]
  refine List.map_congr_left fun m _ => ?_
  simp only [Function.comp, eqv_str]
  by_cases hm : m.part = e.part
  · simp [hm]
  · have : ¬ e.part = m.part := fun z => hm z.symm
    simp [hm, this]
theorem swap_part {nw : List Make} {x : Str} {e : Make} (he : e.part = x) : (swapM nw x e).map (·.part) = nw.map (·.part) := by
  unfold swapM
  rw [List.map_map]
  refine List.map_congr_left fun m _ => ?_
  simp only [Function.comp]
  by_cases h : m.part = x
  · rw [if_pos h, he, h]
  · rw [if_neg h]
theorem swap_mem {nw : List Make} {x : Str} {e k : Make} (h : k ∈ swapM nw x e) : k = e ∨ k ∈ nw ∧ k.part ≠ x := by
  obtain ⟨m, hm, rfl⟩ := List.mem_map.mp h
  by_cases hx : m.part = x
  · rw [if_pos hx]; exact .inl rfl
  · rw [if_neg hx]; exact .inr ⟨hm, hx⟩
theorem Semi.swap {nw : List Make} (h : Semi nw) {x : Str} {e : Make} (he : MOk e) (ho : (ownNames e).Nodup) (ep : e.part = x) : Semi (swapM nw x e) where
  each := fun k hk => by exact (swap_mem hk).elim (fun e => by rw [e]; exact he) fun h1 => h.each k h1.1
  parts := by rw [swap_part ep]; exact h.parts
  few := by unfold swapM; rw [List.length_map]; exact h.few
  own := fun k hk => by exact (swap_mem hk).elim (fun e => by rw [e]; exact ho) fun h1 => h.own k h1.1
theorem sorted_parts {p : Addr} {ms : List Make} {S : Own} {R : DVK} (h : dicOf S (.ref p) = some (makesD ms)) (q : ∀ ys : List Str, ys.Perm (ms.map (·.part)) → R (.lst (ys.map D.str)) S) : rSortedD [.ref p] S R := by
  obtain ⟨ys, hp, e⟩ := sort_map D.str (ms.map (·.part))
  have e0 : (makesD ms).map (·.1) = (ms.map (·.part)).map D.str := by rw [makes_keys, List.map_map]; rfl
  refine ⟨(ms.map (·.part)).map D.str, .inr ⟨_, h, List.all_eq_true.mpr fun p hp => by obtain ⟨m, _, rfl⟩ := List.mem_map.mp hp; rfl, e0.symm⟩, sortOk_strs (fun x => x) _, ?_⟩
  rw [e]; exact q ys hp
theorem sorted_strs {xs : List Str} {S : Own} {R : DVK} (q : ∀ ys : List Str, ys.Perm xs → R (.lst (ys.map D.str)) S) : rSortedD [.lst (xs.map D.str)] S R := by
  obtain ⟨ys, hp, e⟩ := sort_map D.str xs
  refine ⟨xs.map D.str, .inl rfl, sortOk_strs (fun x => x) _, ?_⟩
  rw [e]; exact q ys hp
theorem dic_at {S : Own} {p : Addr} {es : List (D × D)} (h : S p = some (.dct es)) : dicOf S (.ref p) = some es := by simp only [dicOf, h]
section
variable {Dn : DEnds} {b pe pn : Addr} {el : List Make} {g0 g2 g3 g5 g7 g9 g10 g11 g12 g13 g14 g15 g16 g17 g18 : Option D}
/-! ### some makes stay -/
theorem loopA {nw : List Make} {S : Own} {xs : List Str} {g8 : Option D} (he : MsOk el) (hn : Semi nw) (hx : ∀ x ∈ xs, x ∈ el.map (·.part)) (hpe : MAt S pe el) (hpn : S pn = some (.dct (makesD nw))) (hb : Bag S b) (nbp : b ≠ pn) (nbe : b ≠ pe) (npp : pe ≠ pn)
    (fin : ∀ nw' S' g8', Semi nw' → S' pn = some (.dct (makesD nw')) → MAt S' pe el → Bag S' b → Dn.nx [g0, some (.ref b), g2, g3, some (.ref pe), g5, some (.ref pn), g7, g8', g9, g10, g11, g12, g13, g14, g15, g16, g17, g18] S') :
    forRun (dgName 8) tlaw_b0 (fun _ => True) Dn (xs.map D.str) [g0, some (.ref b), g2, g3, some (.ref pe), g5, some (.ref pn), g7, g8, g9, g10, g11, g12, g13, g14, g15, g16, g17, g18] S := by
  refine forRun_map D.str (fun pre G' S' => ∃ nw g8', G' = [g0, some (.ref b), g2, g3, some (.ref pe), g5, some (.ref pn), g7, g8', g9, g10, g11, g12, g13, g14, g15, g16, g17, g18] ∧ Semi nw ∧ S' pn = some (.dct (makesD nw)) ∧ MAt S' pe el ∧ Bag S' b) ⟨nw, _, rfl, hn, hpn, hpe, hb⟩ ?_ ?_
  · rintro pre x post G' S1 K eq ⟨nw, g8', rfl, hn, hpn, hpe, hb⟩ k
    refine ⟨trivial, ?_⟩
    obtain ⟨e, hem, rfl⟩ := List.mem_map.mp (hx x (by rw [eq]; simp))
    simp only [tlaw_b0, in_dic (dic_at hpn), look_makes, Option.isSome_map, kind_makes, show keyB (.str e.part) = true from rfl, Bool.false_eq_true, if_false, dSeq, dIfS, dTb, d2, d1, dVar, dC, dRet, dSet, dPut, dNext, dCB, dCons, dNil, dTup, dLst, dCall, dAnd, dOr, dNot, dAndV, dOrV, dNotV, dChain, dDrop, dIf, dgName, dgNil, dgCons, dgTup, dAsg, dPar, startD, wipeD, List.map_cons, List.map_nil, List.length_cons, List.length_nil, List.replicate, List.cons_append, List.nil_append, List.append_nil, List.getElem?_cons_zero, List.getElem?_cons_succ, Option.some.injEq, exists_eq_left', exists_eq_left, List.set_cons_zero, List.set_cons_succ, rEq_ii, rEq_ss, rNe_ss, rI1_ii, rI2_ii, DL.ix_lst, DL.ix_tup, atI_0, atI_1, atI_2, atI_3, atI_4, atI_5, some_ex, bl_ex, int_ex, len_lst, len_tup, mul_ii, add_ii, add_ll, add_tt, add_ss, decide_eq_true_eq, D.tup.injEq, D.lst.injEq, D.dct.injEq, D.str.injEq, D.int.injEq, D.bl.injEq, D.ref.injEq, Nat.zero_add, Nat.add_zero, Nat.sub_self, Nat.add_one_sub_one, Nat.reduceAdd, Nat.reduceSub, cons_ex, pair_ex, sz_0, sz_1, sz_2, sz_3, sz_4, sz_5, sz_6, sz_7, sz_8, true_and, eq_self]
    cases hf : nw.find? fun m => e.part == m.part with
    | none =>
      simp only [Option.isSome_none, Bool.false_eq_true, if_false]
      exact k _ _ ⟨nw, _, rfl, hn, hpn, hpe, hb⟩
    | some m0 =>
      simp only [Option.isSome_some, if_true]
      have hin : e.part ∈ nw.map (·.part) := by
        have h1 := List.mem_of_find?_eq_some hf
        have h2 := List.find?_some hf
        simp only [beq_iff_eq] at h2
        rw [h2]; exact List.mem_map_of_mem h1
      refine take_step hb (by decide) (by decide) fun v S2 a0 a1 b2 k2 => ?_
      try simp only [dSeq, dIfS, dTb, d2, d1, dVar, dC, dRet, dSet, dPut, dNext, dCB, dCons, dNil, dTup, dLst, dCall, dAnd, dOr, dNot, dAndV, dOrV, dNotV, dChain, dDrop, dIf, dgName, dgNil, dgCons, dgTup, dAsg, dPar, startD, wipeD, List.map_cons, List.map_nil, List.length_cons, List.length_nil, List.replicate, List.cons_append, List.nil_append, List.append_nil, List.getElem?_cons_zero, List.getElem?_cons_succ, Option.some.injEq, exists_eq_left', exists_eq_left, List.set_cons_zero, List.set_cons_succ, rEq_ii, rEq_ss, rNe_ss, rI1_ii, rI2_ii, DL.ix_lst, DL.ix_tup, atI_0, atI_1, atI_2, atI_3, atI_4, atI_5, some_ex, bl_ex, int_ex, len_lst, len_tup, mul_ii, add_ii, add_ll, add_tt, add_ss, decide_eq_true_eq, D.tup.injEq, D.lst.injEq, D.dct.injEq, D.str.injEq, D.int.injEq, D.bl.injEq, D.ref.injEq, Nat.zero_add, Nat.add_zero, Nat.sub_self, Nat.add_one_sub_one, Nat.reduceAdd, Nat.reduceSub, cons_ex, pair_ex, sz_0, sz_1, sz_2, sz_3, sz_4, sz_5, sz_6, sz_7, sz_8, true_and, eq_self]
      have hpn2 : S2 pn = _ := keep_ne k2 hpn (by simpa using Ne.symm nbp)
      have hpe2 := hpe.keep k2 (by simpa using Ne.symm nbe)
      by_cases hv : v = 0
      · rw [if_pos hv, ix_mkE hpe2.dic he.parts hem, set_rd hpn2]
        refine ⟨rfl, kind_makes, by have := hn.few; unfold makesD; rw [List.length_map]; have := size1000; omega, ?_⟩
        rw [put_makes2 hin]
        refine k _ _ ⟨swapM nw e.part e, _, rfl, hn.swap (he.each e hem) (own_nodup he.owns hem) rfl, Own.put_same, ?_, ?_⟩
        · exact hpe2.keep (keep_put (xs := [pn]) (by simp)) (by simpa using npp)
        · exact b2.keep (keep_put (xs := [pn]) (by simp)) (by simpa using nbp)
      · rw [if_neg hv]
        exact k _ _ ⟨nw, _, rfl, hn, hpn2, hpe2, b2⟩
  · rintro G' S1 ⟨nw, g8', rfl, hn, hpn, hpe, hb⟩
    exact ⟨trivial, fin nw S1 g8' hn hpn hpe hb⟩
/-! ### shelves go to one each -/
theorem sl_make3 {m : Make} {S : Own} {R : DVK} : rSlD m.d none (some 3) S R = R (.tup [.str "make", .str m.part, .tup [.int m.v1, .int m.v2]]) S := rfl
theorem ix_make4 {m : Make} {S : Own} {R : DVK} : DL.rIxD m.d (.int 4) S R = R (.tup (List.replicate m.nb bodyD)) S := by
  unfold Make.d; simp only [DL.ix_tup, atI_4, Option.some.injEq, exists_eq_left']
def Row.name : Row → Str
  | .on _ => "ee"
  | .key x .. => x
  | .own x .. => x
theorem ix_name {r : Row} {S : Own} {R : DVK} : DL.rIxD r.d (.int 1) S R = R (.str r.name) S := by
  cases r <;> (unfold Row.d; simp only [DL.ix_tup, atI_1, Option.some.injEq, exists_eq_left']; rfl)
def keepR (tk : List Str) (r : Row) : Bool := !decide (r.word = "own") || !decide (r.name ∈ tk)
def cutM (tk : List Str) (m : Make) : Make := { m with rows := m.rows.filter (keepR tk) }
theorem on_name {r : Row} {x : Str} : on' r = some x ↔ r.word = "own" ∧ r.name = x := by
  cases r with
  | on n => simp only [on', Row.word]; exact ⟨fun h => (nomatch h), fun h => absurd h.1 (show ¬ ("on" : Str) = "own" by decide)⟩
  | key x lo hi f c => simp only [on', Row.word]; exact ⟨fun h => (nomatch h), fun h => absurd h.1 (show ¬ ("key" : Str) = "own" by decide)⟩
  | own x lo hi f => simp [on', Row.word, Row.name]
theorem cut_own {tk : List Str} {m : Make} {x : Str} (h : x ∈ ownNames (cutM tk m)) : x ∈ ownNames m ∧ x ∉ tk := by
  rw [ownNames_eq] at h
  obtain ⟨r, hr, hx⟩ := List.mem_filterMap.mp h
  have hr := List.mem_filter.mp (show r ∈ m.rows.filter (keepR tk) from hr)
  refine ⟨by rw [ownNames_eq]; exact List.mem_filterMap.mpr ⟨r, hr.1, hx⟩, fun h2 => ?_⟩
  obtain ⟨h3, h4⟩ := on_name.mp hx
  have := hr.2
  unfold keepR at this
  rw [h3, h4] at this
  simp [h2] at this
theorem cut_ok {tk : List Str} {m : Make} (h : MOk m) : MOk (cutM tk m) where
  few := Nat.le_trans (List.length_filter_le _ _) h.few
  rin := fun r hr => h.rin r (List.mem_filter.mp (show r ∈ m.rows.filter (keepR tk) from hr)).1
  keys := by
    have := h.keys
    rw [keyNames_eq] at this ⊢
    exact ((List.filter_sublist (p := keepR tk) (l := m.rows)).filterMap kn).nodup this
  nb := h.nb
theorem cut_nodup {tk : List Str} {m : Make} (h : (ownNames m).Nodup) : (ownNames (cutM tk m)).Nodup := by
  rw [ownNames_eq] at h ⊢
  exact ((List.filter_sublist (p := keepR tk) (l := m.rows)).filterMap on').nodup h
theorem cut_whole {tk : List Str} {m : Make} (h : ¬ (m.rows.filter (keepR tk)).length < m.rows.length) : cutM tk m = m := by
  have : m.rows.filter (keepR tk) = m.rows := by
    refine List.filter_eq_self.mpr ?_
    refine List.length_filter_eq_length_iff.mp ?_
    have := List.length_filter_le (keepR tk) m.rows
    omega
  show { m with rows := _ } = m
  rw [this]
theorem loopB {nw : List Make} {S : Own} {xs : List Str} {g8 g9 : Option D} (hn : Semi nw) (hx : xs.Perm (nw.map (·.part))) (hpe : MAt S pe el) (hpn : S pn = some (.dct (makesD nw))) (hb : Bag S b) (nbp : b ≠ pn) (npp : pe ≠ pn)
    (fin : ∀ nw' S' g7' g8' g9', MsOk nw' → S' pn = some (.dct (makesD nw')) → MAt S' pe el → Bag S' b → Dn.nx [g0, some (.ref b), g2, g3, some (.ref pe), g5, some (.ref pn), g7', g8', g9', g10, g11, g12, g13, g14, g15, g16, g17, g18] S') :
    forRun (dgName 8) tlaw_b1 (fun _ => True) Dn (xs.map D.str) [g0, some (.ref b), g2, g3, some (.ref pe), g5, some (.ref pn), some (.lst []), g8, g9, g10, g11, g12, g13, g14, g15, g16, g17, g18] S := by
  have hz := size1000
  have xn : xs.Nodup := hx.nodup_iff.mpr hn.parts
  refine forRun_map D.str (fun pre G' S' => ∃ nw' tk g8' g9', G' = [g0, some (.ref b), g2, g3, some (.ref pe), g5, some (.ref pn), some (.lst ((tk : List Str).map D.str)), g8', g9', g10, g11, g12, g13, g14, g15, g16, g17, g18] ∧ Semi nw' ∧ nw'.map (·.part) = nw.map (·.part) ∧ S' pn = some (.dct (makesD nw')) ∧ MAt S' pe el ∧ Bag S' b ∧ tk.length ≤ 100 * pre.length ∧ (∀ m ∈ nw', m.part ∈ pre → ∀ x ∈ ownNames m, x ∈ tk) ∧ ∀ m1 ∈ nw', ∀ m2 ∈ nw', m1.part ∈ pre → m2.part ∈ pre → m1.part ≠ m2.part → ∀ x ∈ ownNames m1, x ∉ ownNames m2) ⟨nw, [], _, _, rfl, hn, rfl, hpn, hpe, hb, Nat.zero_le _, (fun m _ h => nomatch h), fun m1 _ m2 _ h => nomatch h⟩ ?_ ?_
  · rintro pre x post G' S1 K eq ⟨nw', tk, g8', g9', rfl, hn', ep, hpn, hpe, hb, tl, hin, hdis⟩ k
    refine ⟨trivial, ?_⟩
    have prel : pre.length ≤ 3 := by
      have h1 := congrArg List.length eq
      have h2 := hx.length_eq
      have := hn.few
      simp at h1 h2; omega
    obtain ⟨m, hm, rfl⟩ := List.mem_map.mp (show x ∈ nw'.map (·.part) by rw [ep, ← hx.mem_iff, eq]; simp)
    have hmm := hn'.each m hm
    have xpre : m.part ∉ pre := by
      rw [eq, List.nodup_append] at xn
      exact fun h => xn.2.2 _ h _ (.head _) rfl
    simp only [tlaw_b1, dLc, diTup, diLst, ix_mkE (dic_at hpn) hn'.parts hm, ix_make3, dSeq, dIfS, dTb, d2, d1, dVar, dC, dRet, dSet, dPut, dNext, dCB, dCons, dNil, dTup, dLst, dCall, dAnd, dOr, dNot, dAndV, dOrV, dNotV, dChain, dDrop, dIf, dgName, dgNil, dgCons, dgTup, dAsg, dPar, startD, wipeD, List.map_cons, List.map_nil, List.length_cons, List.length_nil, List.replicate, List.cons_append, List.nil_append, List.append_nil, List.getElem?_cons_zero, List.getElem?_cons_succ, Option.some.injEq, exists_eq_left', exists_eq_left, List.set_cons_zero, List.set_cons_succ, rEq_ii, rEq_ss, rNe_ss, rI1_ii, rI2_ii, DL.ix_lst, DL.ix_tup, atI_0, atI_1, atI_2, atI_3, atI_4, atI_5, some_ex, bl_ex, int_ex, len_lst, len_tup, mul_ii, add_ii, add_ll, add_tt, add_ss, decide_eq_true_eq, D.tup.injEq, D.lst.injEq, D.dct.injEq, D.str.injEq, D.int.injEq, D.bl.injEq, D.ref.injEq, Nat.zero_add, Nat.add_zero, Nat.sub_self, Nat.add_one_sub_one, Nat.reduceAdd, Nat.reduceSub, cons_ex, pair_ex, sz_0, sz_1, sz_2, sz_3, sz_4, sz_5, sz_6, sz_7, sz_8, true_and, eq_self]
    refine lcRun_map Row.d (fun r => if keepR tk r = true then some r.d else none) (by have := hmm.few; omega) trivial (fun r _ K k => ?_) ?_
    · simp only [ix_word, ix_name, in_strs, if_true, dSeq, dIfS, dTb, d2, d1, dVar, dC, dRet, dSet, dPut, dNext, dCB, dCons, dNil, dTup, dLst, dCall, dAnd, dOr, dNot, dAndV, dOrV, dNotV, dChain, dDrop, dIf, dgName, dgNil, dgCons, dgTup, dAsg, dPar, startD, wipeD, List.map_cons, List.map_nil, List.length_cons, List.length_nil, List.replicate, List.cons_append, List.nil_append, List.append_nil, List.getElem?_cons_zero, List.getElem?_cons_succ, Option.some.injEq, exists_eq_left', exists_eq_left, List.set_cons_zero, List.set_cons_succ, rEq_ii, rEq_ss, rNe_ss, rI1_ii, rI2_ii, DL.ix_lst, DL.ix_tup, atI_0, atI_1, atI_2, atI_3, atI_4, atI_5, some_ex, bl_ex, int_ex, len_lst, len_tup, mul_ii, add_ii, add_ll, add_tt, add_ss, decide_eq_true_eq, D.tup.injEq, D.lst.injEq, D.dct.injEq, D.str.injEq, D.int.injEq, D.bl.injEq, D.ref.injEq, Nat.zero_add, Nat.add_zero, Nat.sub_self, Nat.add_one_sub_one, Nat.reduceAdd, Nat.reduceSub, cons_ex, pair_ex, sz_0, sz_1, sz_2, sz_3, sz_4, sz_5, sz_6, sz_7, sz_8, true_and, eq_self]
      unfold keepR at k
      by_cases h1 : r.word = ("own" : Str)
      · by_cases h2 : r.name ∈ tk
        · simpa [h1, h2] using k
        · simpa [h1, h2] using k
      · simpa [h1] using k
    have e1 : (m.rows.filterMap fun r => if keepR tk r = true then some r.d else none) = (cutM tk m).rows.map Row.d := by
      show _ = (m.rows.filter (keepR tk)).map Row.d
      induction m.rows with
      | nil => rfl
      | cons r rs ih => by_cases hw : keepR tk r = true <;> simp [hw, ih]
    rw [e1]
    have cl : (cutM tk m).rows.length ≤ 100 := (cut_ok (tk := tk) hmm).few
    refine lcRun_map Row.d (fun r => (on' r).map D.str) (by omega) trivial (fun r _ K k => ?_) ?_
    · simp only [ix_word, ix_name, dSeq, dIfS, dTb, d2, d1, dVar, dC, dRet, dSet, dPut, dNext, dCB, dCons, dNil, dTup, dLst, dCall, dAnd, dOr, dNot, dAndV, dOrV, dNotV, dChain, dDrop, dIf, dgName, dgNil, dgCons, dgTup, dAsg, dPar, startD, wipeD, List.map_cons, List.map_nil, List.length_cons, List.length_nil, List.replicate, List.cons_append, List.nil_append, List.append_nil, List.getElem?_cons_zero, List.getElem?_cons_succ, Option.some.injEq, exists_eq_left', exists_eq_left, List.set_cons_zero, List.set_cons_succ, rEq_ii, rEq_ss, rNe_ss, rI1_ii, rI2_ii, DL.ix_lst, DL.ix_tup, atI_0, atI_1, atI_2, atI_3, atI_4, atI_5, some_ex, bl_ex, int_ex, len_lst, len_tup, mul_ii, add_ii, add_ll, add_tt, add_ss, decide_eq_true_eq, D.tup.injEq, D.lst.injEq, D.dct.injEq, D.str.injEq, D.int.injEq, D.bl.injEq, D.ref.injEq, Nat.zero_add, Nat.add_zero, Nat.sub_self, Nat.add_one_sub_one, Nat.reduceAdd, Nat.reduceSub, cons_ex, pair_ex, sz_0, sz_1, sz_2, sz_3, sz_4, sz_5, sz_6, sz_7, sz_8, true_and, eq_self]
      by_cases h1 : r.word = ("own" : Str)
      · rw [show on' r = some r.name from on_name.mpr ⟨h1, rfl⟩] at k
        simpa only [h1, if_true, Option.map_some] using k
      · have : on' r = none := by
          cases h : on' r with
          | none => rfl
          | some y => exact absurd (on_name.mp h).1 h1
        rw [this] at k
        simpa only [if_neg h1, Option.map_none] using k
    have e2 : ((cutM tk m).rows.filterMap fun r => (on' r).map D.str) = (ownNames (cutM tk m)).map D.str := by
      rw [ownNames_eq, List.map_filterMap]
    rw [e2]
    have ol := ownNames_len (cut_ok (tk := tk) hmm)
    have mk : ∀ G7 : Option D, G7 = some (.lst ((tk ++ ownNames (cutM tk m)).map D.str)) → ∀ S2 g9'', S2 pn = some (.dct (makesD (swapM nw' m.part (cutM tk m)))) → MAt S2 pe el → Bag S2 b → K [g0, some (.ref b), g2, g3, some (.ref pe), g5, some (.ref pn), G7, some (.str m.part), g9'', g10, g11, g12, g13, g14, g15, g16, g17, g18] S2 := by
      rintro _ rfl S2 g9'' h1 h2 h3
      have look : ∀ {k : Make}, k ∈ swapM nw' m.part (cutM tk m) → k.part ∈ pre ++ [m.part] → k = cutM tk m ∨ k ∈ nw' ∧ k.part ≠ m.part ∧ k.part ∈ pre := fun {k} hk hp => by
        rcases swap_mem hk with rfl | ⟨a1, a2⟩
        · exact .inl rfl
        · refine .inr ⟨a1, a2, ?_⟩
          rcases List.mem_append.mp hp with hp | hp
          · exact hp
          · exact absurd (List.mem_singleton.mp hp) a2
      refine k _ _ ⟨swapM nw' m.part (cutM tk m), tk ++ ownNames (cutM tk m), _, _, rfl, hn'.swap (cut_ok hmm) (cut_nodup (hn'.own m hm)) rfl, by rw [swap_part (x := m.part) (e := cutM tk m) rfl, ep], h1, h2, h3, by simp; omega, ?_, ?_⟩
      · intro k hk hp y hy
        rcases look hk hp with rfl | ⟨a1, _, a3⟩
        · exact List.mem_append_right _ hy
        · exact List.mem_append_left _ (hin k a1 a3 y hy)
      · intro k1 hk1 k2 hk2 hp1 hp2 ne y hy1 hy2
        rcases look hk1 hp1 with rfl | ⟨a1, _, a3⟩ <;> rcases look hk2 hp2 with rfl | ⟨b1, _, b3⟩
        · exact ne rfl
        · exact (cut_own hy1).2 (hin k2 b1 b3 y hy2)
        · exact (cut_own hy2).2 (hin k1 a1 a3 y hy1)
        · exact hdis k1 a1 k2 b1 a3 b3 ne y hy1 hy2
    simp only [rTupleC, seqD, dSl, dNoPart, dPart, sl_make3, ix_make4, ix_mkE (dic_at hpn) hn'.parts hm, ix_make3, List.length_map, List.length_append, dSeq, dIfS, dTb, d2, d1, dVar, dC, dRet, dSet, dPut, dNext, dCB, dCons, dNil, dTup, dLst, dCall, dAnd, dOr, dNot, dAndV, dOrV, dNotV, dChain, dDrop, dIf, dgName, dgNil, dgCons, dgTup, dAsg, dPar, startD, wipeD, List.map_cons, List.map_nil, List.length_cons, List.length_nil, List.replicate, List.cons_append, List.nil_append, List.append_nil, List.getElem?_cons_zero, List.getElem?_cons_succ, Option.some.injEq, exists_eq_left', exists_eq_left, List.set_cons_zero, List.set_cons_succ, rEq_ii, rEq_ss, rNe_ss, rI1_ii, rI2_ii, DL.ix_lst, DL.ix_tup, atI_0, atI_1, atI_2, atI_3, atI_4, atI_5, some_ex, bl_ex, int_ex, len_lst, len_tup, mul_ii, add_ii, add_ll, add_tt, add_ss, decide_eq_true_eq, D.tup.injEq, D.lst.injEq, D.dct.injEq, D.str.injEq, D.int.injEq, D.bl.injEq, D.ref.injEq, Nat.zero_add, Nat.add_zero, Nat.sub_self, Nat.add_one_sub_one, Nat.reduceAdd, Nat.reduceSub, cons_ex, pair_ex, sz_0, sz_1, sz_2, sz_3, sz_4, sz_5, sz_6, sz_7, sz_8, true_and, eq_self]
    refine ⟨by omega, ?_⟩
    by_cases hlt : (((cutM tk m).rows.length : Nat) : Int) < ((m.rows.length : Nat) : Int)
    · rw [if_pos hlt]
      rw [set_rd hpn]
      refine ⟨rfl, kind_makes, by have := hn'.few; unfold makesD; rw [List.length_map]; omega, ?_⟩
      have ed : putD (makesD nw') (.str m.part) (.tup [.str "make", .str m.part, .tup [.int m.v1, .int m.v2], .tup ((cutM tk m).rows.map Row.d), .tup (List.replicate m.nb bodyD)]) = makesD (swapM nw' m.part (cutM tk m)) :=
        put_makes2 (e := cutM tk m) (show m.part ∈ nw'.map (·.part) from List.mem_map_of_mem hm)
      rw [ed]
      exact mk _ (by simp) _ _ Own.put_same (hpe.keep (keep_put (xs := [pn]) (by simp)) (by simpa using npp)) (hb.keep (keep_put (xs := [pn]) (by simp)) (by simpa using nbp))
    · rw [if_neg hlt]
      refine mk _ (by simp) S1 _ ?_ hpe hb
      have : cutM tk m = m := cut_whole (by simpa [cutM] using hlt)
      have e3 : swapM nw' m.part m = nw' := by
        unfold swapM
        refine (List.map_congr_left fun k hk => ?_).trans (List.map_id _)
        by_cases h : k.part = m.part
        · rw [if_pos h]
          have h1 := find_part hn'.parts hk h
          have h2 := find_part hn'.parts hm rfl
          rw [h1] at h2; exact (Option.some.inj h2).symm
        · rw [if_neg h]; rfl
      rw [this, e3]; exact hpn
  · rintro G' S1 ⟨nw', tk, g8', g9', rfl, hn', ep, hpn, hpe, hb, tl, hin, hdis⟩
    refine ⟨trivial, fin nw' S1 _ _ _ ⟨hn'.each, hn'.parts, hn'.few, ?_⟩ hpn hpe hb⟩
    have all : ∀ m ∈ nw', m.part ∈ xs := fun m hm => by rw [hx.mem_iff, ← ep]; exact List.mem_map_of_mem hm
    unfold owns List.Nodup
    rw [List.pairwise_flatMap]
    refine ⟨fun m hm => hn'.own m hm, ?_⟩
    have h2 := hn'.parts
    unfold List.Nodup at h2
    rw [List.pairwise_map] at h2
    exact List.Pairwise.imp_of_mem (fun {a b} ha hb' ne x hx' y hy e => hdis a ha b hb' (all a ha) (all b hb') ne x hx' (e ▸ hy)) h2
end
end K83
namespace K83
open PySem PySem.Spec PyProof.Rows L2 DL
section
variable {Dn : DEnds} {b pe pn h r1 r2 : Addr} {el nw nw2 : List Make} {ks ks1 : Keys} {ss ss1 : Shelves} {g0 g2 g3 g4 g5 g6 g7 g8 g9 g10 g11 g12 g13 g17 g18 : Option D}
theorem size_k {ms : List Make} (h : MsOk ms) : (spots ms).length ≤ 400 := by
  have h1 : (spots ms).length ≤ ms.length * 100 := fm_len fun m hm => by
    unfold spotsOf; rw [List.length_map]; exact keyNames_len (h.each m hm)
  have := h.few; omega
theorem size_s {ms : List Make} (h : MsOk ms) : (owns ms).length ≤ 400 := by
  have h1 : (owns ms).length ≤ ms.length * 100 := fm_len fun m hm => ownNames_len (h.each m hm)
  have := h.few; omega
theorem loopC {S : Own} {xs : List D} (he : MsOk el) (hn : MsOk nw) (hk : ks.map (·.1) = spots el) (hs : ss.map (·.1) = owns el) (pk : ks1.Perm ks) (ps : ss1.Perm ss) (pn2 : nw2.Perm nw)
    (hh : S h = some (.lst (handD ks1 ss1 el nw2))) (h1 : S r1 = some (.dct (keysD (dueKeys ks el nw)))) (h2 : S r2 = some (.dct (shelvesD (dueShelves ss nw))))
    (fin : ∀ S' g17' g18', Keep S S' [] → Dn.nx [g0, some (.ref b), g2, g3, g4, g5, g6, g7, g8, g9, g10, g11, g12, g13, some (.ref h), some (.lst (handD ks1 ss1 el nw2)), some (.tup [.ref r1, .ref r2]), g17', g18'] S') :
    forRun (dgName 17) tlaw_b2 (fun _ => True) Dn xs [g0, some (.ref b), g2, g3, g4, g5, g6, g7, g8, g9, g10, g11, g12, g13, some (.ref h), some (.lst (handD ks1 ss1 el nw2)), some (.tup [.ref r1, .ref r2]), g17, g18] S := by
  have hz := size1000
  refine forRun_each (fun pre G' S' => (∃ g17' g18', G' = [g0, some (.ref b), g2, g3, g4, g5, g6, g7, g8, g9, g10, g11, g12, g13, some (.ref h), some (.lst (handD ks1 ss1 el nw2)), some (.tup [.ref r1, .ref r2]), g17', g18']) ∧ Keep S S' []) ⟨⟨_, _, rfl⟩, Keep.refl _ _⟩ ?_ ?_
  · rintro pre x post G' S1 K _ ⟨⟨g17', g18', rfl⟩, k1⟩ k
    refine ⟨trivial, ?_⟩
    have hh1 : S1 h = _ := keep_ne k1 hh (by simp)
    have hn2 := hn.perm pn2.symm
    simp only [tlaw_b2, ix_rl hh1, handD, dSeq, dIfS, dTb, d2, d1, dVar, dC, dRet, dSet, dPut, dNext, dCB, dCons, dNil, dTup, dLst, dCall, dAnd, dOr, dNot, dAndV, dOrV, dNotV, dChain, dDrop, dIf, dgName, dgNil, dgCons, dgTup, dAsg, dPar, startD, wipeD, List.map_cons, List.map_nil, List.length_cons, List.length_nil, List.replicate, List.cons_append, List.nil_append, List.append_nil, List.getElem?_cons_zero, List.getElem?_cons_succ, Option.some.injEq, exists_eq_left', exists_eq_left, List.set_cons_zero, List.set_cons_succ, rEq_ii, rEq_ss, rNe_ss, rI1_ii, rI2_ii, DL.ix_lst, DL.ix_tup, atI_0, atI_1, atI_2, atI_3, atI_4, atI_5, some_ex, bl_ex, int_ex, len_lst, len_tup, mul_ii, add_ii, add_ll, add_tt, add_ss, decide_eq_true_eq, D.tup.injEq, D.lst.injEq, D.dct.injEq, D.str.injEq, D.int.injEq, D.bl.injEq, D.ref.injEq, Nat.zero_add, Nat.add_zero, Nat.sub_self, Nat.add_one_sub_one, Nat.reduceAdd, Nat.reduceSub, cons_ex, pair_ex, sz_0, sz_1, sz_2, sz_3, sz_4, sz_5, sz_6, sz_7, sz_8, true_and, eq_self]
    refine ⟨ks1, ss1, el, nw2, rfl, he, hn2, fun t1 t2 ht1 ht2 ne => ?_⟩
    try simp only [dSeq, dIfS, dTb, d2, d1, dVar, dC, dRet, dSet, dPut, dNext, dCB, dCons, dNil, dTup, dLst, dCall, dAnd, dOr, dNot, dAndV, dOrV, dNotV, dChain, dDrop, dIf, dgName, dgNil, dgCons, dgTup, dAsg, dPar, startD, wipeD, List.map_cons, List.map_nil, List.length_cons, List.length_nil, List.replicate, List.cons_append, List.nil_append, List.append_nil, List.getElem?_cons_zero, List.getElem?_cons_succ, Option.some.injEq, exists_eq_left', exists_eq_left, List.set_cons_zero, List.set_cons_succ, rEq_ii, rEq_ss, rNe_ss, rI1_ii, rI2_ii, DL.ix_lst, DL.ix_tup, atI_0, atI_1, atI_2, atI_3, atI_4, atI_5, some_ex, bl_ex, int_ex, len_lst, len_tup, mul_ii, add_ii, add_ll, add_tt, add_ss, decide_eq_true_eq, D.tup.injEq, D.lst.injEq, D.dct.injEq, D.str.injEq, D.int.injEq, D.bl.injEq, D.ref.injEq, Nat.zero_add, Nat.add_zero, Nat.sub_self, Nat.add_one_sub_one, Nat.reduceAdd, Nat.reduceSub, cons_ex, pair_ex, sz_0, sz_1, sz_2, sz_3, sz_4, sz_5, sz_6, sz_7, sz_8, true_and, eq_self]
    have kt : Keep S1 ((S1.put t1 (.dct (keysD (keysOver ks1 el nw2)))).put t2 (.dct (shelvesD (shelvesOver ss1 el nw2)))) [] := (keep_new ht1).trans (keep_new (by rw [Own.put_ne (Ne.symm ne)]; exact ht2))
    have kk := k1.trans kt
    have v1 : ((S1.put t1 (.dct (keysD (keysOver ks1 el nw2)))).put t2 (.dct (shelvesD (shelvesOver ss1 el nw2)))) t1 = some (.dct (keysD (keysOver ks1 el nw2))) := by rw [Own.put_ne ne, Own.put_same]
    have v2 : ((S1.put t1 (.dct (keysD (keysOver ks1 el nw2)))).put t2 (.dct (shelvesD (shelvesOver ss1 el nw2)))) t2 = some (.dct (shelvesD (shelvesOver ss1 el nw2))) := Own.put_same
    generalize (S1.put t1 (.dct (keysD (keysOver ks1 el nw2)))).put t2 (.dct (shelvesD (shelvesOver ss1 el nw2))) = S2 at kt kk v1 v2 ⊢
    obtain ⟨q1, q2⟩ := told_keys he hn hk pk pn2 38
    obtain ⟨q3, q4⟩ := told_shelves he hn hs ps pn2 38
    simp only [rIsInst, dSeq, dIfS, dTb, d2, d1, dVar, dC, dRet, dSet, dPut, dNext, dCB, dCons, dNil, dTup, dLst, dCall, dAnd, dOr, dNot, dAndV, dOrV, dNotV, dChain, dDrop, dIf, dgName, dgNil, dgCons, dgTup, dAsg, dPar, startD, wipeD, List.map_cons, List.map_nil, List.length_cons, List.length_nil, List.replicate, List.cons_append, List.nil_append, List.append_nil, List.getElem?_cons_zero, List.getElem?_cons_succ, Option.some.injEq, exists_eq_left', exists_eq_left, List.set_cons_zero, List.set_cons_succ, rEq_ii, rEq_ss, rNe_ss, rI1_ii, rI2_ii, DL.ix_lst, DL.ix_tup, atI_0, atI_1, atI_2, atI_3, atI_4, atI_5, some_ex, bl_ex, int_ex, len_lst, len_tup, mul_ii, add_ii, add_ll, add_tt, add_ss, decide_eq_true_eq, D.tup.injEq, D.lst.injEq, D.dct.injEq, D.str.injEq, D.int.injEq, D.bl.injEq, D.ref.injEq, Nat.zero_add, Nat.add_zero, Nat.sub_self, Nat.add_one_sub_one, Nat.reduceAdd, Nat.reduceSub, cons_ex, pair_ex, sz_0, sz_1, sz_2, sz_3, sz_4, sz_5, sz_6, sz_7, sz_8, true_and, eq_self]
    refine ⟨"tuple", rfl, by decide, ite_no (by decide) ?_⟩
    refine ⟨.tup [.dct (keysD (keysOver ks1 el nw2)), .dct (shelvesD (shelvesOver ss1 el nw2))], .tup [.dct (keysD (dueKeys ks el nw)), .dct (shelvesD (dueShelves ss nw))],
      .tup (.cons (.dctO v1 (Und.leaf noref_keys)) (.cons (.dctO v2 (Und.leaf noref_shelves)) .nil)),
      .tup (.cons (.dctO (keep_ne kk h1 (by simp)) (Und.leaf noref_keys)) (.cons (.dctO (keep_ne kk h2 (by simp)) (Und.leaf noref_shelves)) .nil)), ?_, rfl, ?_⟩
    · unfold okE
      simp only [List.zip_cons_cons, List.zip_nil_right, List.all_cons, List.all_nil, q2, q4, Bool.and_true, Bool.or_true]
    have e1 : eqv (.tup [.dct (keysD (keysOver ks1 el nw2)), .dct (shelvesD (shelvesOver ss1 el nw2))]) (.tup [.dct (keysD (dueKeys ks el nw)), .dct (shelvesD (dueShelves ss nw))]) = true := by
      show (eqv _ _ && (eqv _ _ && true)) = true
      rw [q1, q3]; rfl
    rw [e1]
    simp only [Bool.not_true, Bool.false_eq_true, if_false, dSeq, dIfS, dTb, d2, d1, dVar, dC, dRet, dSet, dPut, dNext, dCB, dCons, dNil, dTup, dLst, dCall, dAnd, dOr, dNot, dAndV, dOrV, dNotV, dChain, dDrop, dIf, dgName, dgNil, dgCons, dgTup, dAsg, dPar, startD, wipeD, List.map_cons, List.map_nil, List.length_cons, List.length_nil, List.replicate, List.cons_append, List.nil_append, List.append_nil, List.getElem?_cons_zero, List.getElem?_cons_succ, Option.some.injEq, exists_eq_left', exists_eq_left, List.set_cons_zero, List.set_cons_succ, rEq_ii, rEq_ss, rNe_ss, rI1_ii, rI2_ii, DL.ix_lst, DL.ix_tup, atI_0, atI_1, atI_2, atI_3, atI_4, atI_5, some_ex, bl_ex, int_ex, len_lst, len_tup, mul_ii, add_ii, add_ll, add_tt, add_ss, decide_eq_true_eq, D.tup.injEq, D.lst.injEq, D.dct.injEq, D.str.injEq, D.int.injEq, D.bl.injEq, D.ref.injEq, Nat.zero_add, Nat.add_zero, Nat.sub_self, Nat.add_one_sub_one, Nat.reduceAdd, Nat.reduceSub, cons_ex, pair_ex, sz_0, sz_1, sz_2, sz_3, sz_4, sz_5, sz_6, sz_7, sz_8, true_and, eq_self]
    have nk : (ks1.map (·.1)).Nodup := (pk.map _).nodup_iff.mpr (by rw [hk]; exact spots_nodup he)
    have ns : (ss1.map (·.1)).Nodup := (ps.map _).nodup_iff.mpr (by rw [hs]; exact he.owns)
    have lk : ks1.length ≤ 400 := by rw [pk.length_eq, ← List.length_map (f := (·.1)), hk]; exact size_k he
    have ls : ss1.length ≤ 400 := by rw [ps.length_eq, ← List.length_map (f := (·.1)), hs]; exact size_s he
    have dp : Dep 40 (.lst (handD ks1 ss1 el nw2)) := (dep_hand nk ns (by omega) (by omega) he.each hn2.each he.few hn2.few).mono (by decide)
    refine ⟨.lst (handD ks1 ss1 el nw2), .lst (handD ks1 ss1 el nw2), .lstO (keep_ne kk hh (by simp)) (Uns.leaf noref_hand), .leaf (by unfold noref; exact noref_hand), dp.okE, by simp, ?_⟩
    rw [dp.eqv]
    simp only [Bool.not_true, Bool.false_eq_true, if_false, dSeq, dIfS, dTb, d2, d1, dVar, dC, dRet, dSet, dPut, dNext, dCB, dCons, dNil, dTup, dLst, dCall, dAnd, dOr, dNot, dAndV, dOrV, dNotV, dChain, dDrop, dIf, dgName, dgNil, dgCons, dgTup, dAsg, dPar, startD, wipeD, List.map_cons, List.map_nil, List.length_cons, List.length_nil, List.replicate, List.cons_append, List.nil_append, List.append_nil, List.getElem?_cons_zero, List.getElem?_cons_succ, Option.some.injEq, exists_eq_left', exists_eq_left, List.set_cons_zero, List.set_cons_succ, rEq_ii, rEq_ss, rNe_ss, rI1_ii, rI2_ii, DL.ix_lst, DL.ix_tup, atI_0, atI_1, atI_2, atI_3, atI_4, atI_5, some_ex, bl_ex, int_ex, len_lst, len_tup, mul_ii, add_ii, add_ll, add_tt, add_ss, decide_eq_true_eq, D.tup.injEq, D.lst.injEq, D.dct.injEq, D.str.injEq, D.int.injEq, D.bl.injEq, D.ref.injEq, Nat.zero_add, Nat.add_zero, Nat.sub_self, Nat.add_one_sub_one, Nat.reduceAdd, Nat.reduceSub, cons_ex, pair_ex, sz_0, sz_1, sz_2, sz_3, sz_4, sz_5, sz_6, sz_7, sz_8, true_and, eq_self]
    rw [set_rd v1]
    refine ⟨rfl, kind_keys, ?_, ?_⟩
    · have := size_k hn2
      unfold keysD; rw [List.length_map, ← List.length_map (f := (·.1)), keysOver_fst]; omega
    rw [set_rd (by rw [Own.put_ne (Ne.symm ne)]; exact v2)]
    refine ⟨rfl, kind_shelves, ?_, ?_⟩
    · have := size_s hn2
      unfold shelvesD; rw [List.length_map, ← List.length_map (f := (·.1)), shelvesOver_fst]; omega
    refine k _ _ ⟨⟨_, _, rfl⟩, fun a o e n => ?_⟩
    have e0 := k1 a o e n
    have a1 : a ≠ t1 := fun z => by rw [z, ht1] at e0; cases e0
    have a2 : a ≠ t2 := fun z => by rw [z, ht2] at e0; cases e0
    rw [Own.put_ne a2, Own.put_ne a1]
    exact kk a o e n
  · rintro G' S1 ⟨⟨g17', g18', rfl⟩, k1⟩
    exact ⟨trivial, fin S1 _ _ k1⟩
end
/-! ### the dicts that are handed in -/
theorem sorted_dict {ti tc : RE} {G : DG} {S : Own} {R : DVK} {a : Addr} {es : List (D × D)} {tn : Int} (h1 : ∀ R' : DVK, R' (.ref a) S → ti G S R') (h2 : ∀ R' : DVK, R' (.int tn) S → tc G S R') (ht : tn = 1 ∨ tn = -1) (hd : dicOf S (.ref a) = some es) (so : SortOk (itemsD es)) (ko : KeysOk es)
    (q : ∀ ds es2, es2.Perm es → lstOf S (.lst ds) = some ds → pairsD ds = some es2 → mergeD [] es2 = es2 → R (.lst ds) S) : dStep (dSortIt ti) tc G S R := by
  obtain ⟨ys, hp, e⟩ := sort_map (fun q : D × D => D.tup [q.1, q.2]) es
  have e' : sortDs (itemsD es) = ys.map fun q => D.tup [q.1, q.2] := e
  have mg : ∀ {zs : List (D × D)}, zs.Perm es → mergeD [] zs = zs := fun {zs} p => by
    have k := ko.perm p.symm
    exact mergeD_new (by simpa using k.key) (by simpa using k.nodup)
  refine h1 _ ⟨es, hd, so, ?_⟩
  rw [e']
  refine h2 _ ⟨tn, rfl, tn, rfl, _, rfl, ?_⟩
  rcases ht with rfl | rfl
  · exact .inl ⟨rfl, q _ ys hp rfl pairsD_of (mg hp)⟩
  · refine .inr ⟨rfl, ?_⟩
    rw [← List.map_reverse]
    exact q _ ys.reverse ((List.reverse_perm ys).trans hp) rfl pairsD_of (mg ((List.reverse_perm ys).trans hp))
theorem items_keys (ks : Keys) : SortOk (itemsD (keysD ks)) := by
  have e : itemsD (keysD ks) = ks.map fun p : Spot × Int => D.tup [spotD p.1, .int p.2] := by unfold itemsD keysD; rw [List.map_map]; rfl
  rw [e]
  exact sortOk_tups _ ks (fun a => by simp [spotD, shD, shA, shL]) (fun a b => by simp [toP, toPs, spotD, PySem.W.alike, PySem.W.alikeAll]) fun a => ⟨_, _, rfl⟩
theorem items_shelves (ss : Shelves) : SortOk (itemsD (shelvesD ss)) := by
  have e : itemsD (shelvesD ss) = ss.map fun p : Str × Int => D.tup [.str p.1, .int p.2] := by unfold itemsD shelvesD; rw [List.map_map]; rfl
  rw [e]
  exact sortOk_tups _ ss (fun a => by simp [shD, shA, shL]) (fun a b => by simp [toP, toPs, PySem.W.alike, PySem.W.alikeAll]) fun a => ⟨_, _, rfl⟩
theorem dict_back {S : Own} {R : DVK} {ds : List D} {es2 : List (D × D)} (l : lstOf S (.lst ds) = some ds) (p : pairsD ds = some es2) (m : mergeD [] es2 = es2) (k : KeysOk es2) (q : R (.dct es2) S) : rDictC [.lst ds] S R :=
  ⟨ds, es2, l, p, k.all, by rw [m]; exact q⟩
theorem cut_sub {α : Type} (f : α → D) (xs : List α) (lo hi : Option Int) : ∃ ys : List α, DL.cutD (xs.map f) lo hi = ys.map f ∧ ys.Sublist xs :=
  ⟨(xs.drop (HT.sIx xs.length 0 lo)).take (HT.sIx xs.length xs.length hi - HT.sIx xs.length 0 lo), by unfold DL.cutD; rw [List.length_map, List.map_take, List.map_drop], (List.take_sublist _ _).trans (List.drop_sublist _ _)⟩
end K83
namespace K83
open PySem PySem.Spec PyProof.Rows L2 DL
abbrev tailT : RS :=
  (dSeq (dPar 15 16 (dCons (dCall (sp_law_copy 8) [] (dCons (dVar 14) dNil)) (dCons (dCall sp_law_due [] (dCons (dVar 11) (dCons (dVar 12) (dCons (dVar 4) (dCons (dVar 6) dNil))))) dNil)))
  (dSeq (dFor (diRng1 (dCons (dC (.int 2)) dNil)) (dgName 17)
  tlaw_b2)
  (dSet 4 (dVar 6))))
section
variable {Dn : DEnds} {b pe pn h q1 q2 : Addr} {el nw nw2 : List Make} {ks ks1 : Keys} {ss ss1 : Shelves} {g0 g2 g3 g5 g7 g8 g9 g10 g13 g15 g16 g17 g18 : Option D}
theorem tail_b3 {S : Own} (he : MsOk el) (hn : MsOk nw) (hk : ks.map (·.1) = spots el) (hs : ss.map (·.1) = owns el) (pk : ks1.Perm ks) (ps : ss1.Perm ss) (pn2 : nw2.Perm nw) (hb : Bag S b)
    (npp : pe ≠ pn) (n1 : q1 ≠ pn) (n2 : q2 ≠ pn) (nh : h ≠ pn) (nb : b ≠ pn) (hq1 : S q1 = some (.dct (keysD ks))) (hq2 : S q2 = some (.dct (shelvesD ss))) (hpe : MAt S pe el) (hpn : MAt S pn nw) (hh : S h = some (.lst (handD ks1 ss1 el nw2)))
    (fin : ∀ S' g15' g16' g17' g18', Bag S' b → MAt S' pn nw → Dn.nx [g0, some (.ref b), g2, g3, some (.ref pn), g5, some (.ref pn), g7, g8, g9, g10, some (.ref q1), some (.ref q2), g13, some (.ref h), g15', g16', g17', g18'] S') :
    tailT Dn [g0, some (.ref b), g2, g3, some (.ref pe), g5, some (.ref pn), g7, g8, g9, g10, some (.ref q1), some (.ref q2), g13, some (.ref h), g15, g16, g17, g18] S := by
  have hz := size1000
  have nk : (ks1.map (·.1)).Nodup := (pk.map _).nodup_iff.mpr (by rw [hk]; exact spots_nodup he)
  have ns : (ss1.map (·.1)).Nodup := (ps.map _).nodup_iff.mpr (by rw [hs]; exact he.owns)
  have lk : ks1.length ≤ 400 := by rw [pk.length_eq, ← List.length_map (f := (·.1)), hk]; exact size_k he
  have ls : ss1.length ≤ 400 := by rw [ps.length_eq, ← List.length_map (f := (·.1)), hs]; exact size_s he
  have hn2 := hn.perm pn2.symm
  simp only [tailT, dFor, diRng1, dSeq, dIfS, dTb, d2, d1, dVar, dC, dRet, dSet, dPut, dNext, dCB, dCons, dNil, dTup, dLst, dCall, dAnd, dOr, dNot, dAndV, dOrV, dNotV, dChain, dDrop, dIf, dgName, dgNil, dgCons, dgTup, dAsg, dPar, startD, wipeD, List.map_cons, List.map_nil, List.length_cons, List.length_nil, List.replicate, List.cons_append, List.nil_append, List.append_nil, List.getElem?_cons_zero, List.getElem?_cons_succ, Option.some.injEq, exists_eq_left', exists_eq_left, List.set_cons_zero, List.set_cons_succ, rEq_ii, rEq_ss, rNe_ss, rI1_ii, rI2_ii, DL.ix_lst, DL.ix_tup, atI_0, atI_1, atI_2, atI_3, atI_4, atI_5, some_ex, bl_ex, int_ex, len_lst, len_tup, mul_ii, add_ii, add_ll, add_tt, add_ss, decide_eq_true_eq, D.tup.injEq, D.lst.injEq, D.dct.injEq, D.str.injEq, D.int.injEq, D.bl.injEq, D.ref.injEq, Nat.zero_add, Nat.add_zero, Nat.sub_self, Nat.add_one_sub_one, Nat.reduceAdd, Nat.reduceSub, cons_ex, pair_ex, sz_0, sz_1, sz_2, sz_3, sz_4, sz_5, sz_6, sz_7, sz_8, true_and, eq_self]
  refine ⟨.ref h, .lst (handD ks1 ss1 el nw2), rfl, .inr ⟨h, _, rfl, hh, noref_hand, rfl⟩, (dep_hand nk ns (by omega) (by omega) he.each hn2.each he.few hn2.few).mono (by decide), ?_⟩
  try simp only [dSeq, dIfS, dTb, d2, d1, dVar, dC, dRet, dSet, dPut, dNext, dCB, dCons, dNil, dTup, dLst, dCall, dAnd, dOr, dNot, dAndV, dOrV, dNotV, dChain, dDrop, dIf, dgName, dgNil, dgCons, dgTup, dAsg, dPar, startD, wipeD, List.map_cons, List.map_nil, List.length_cons, List.length_nil, List.replicate, List.cons_append, List.nil_append, List.append_nil, List.getElem?_cons_zero, List.getElem?_cons_succ, Option.some.injEq, exists_eq_left', exists_eq_left, List.set_cons_zero, List.set_cons_succ, rEq_ii, rEq_ss, rNe_ss, rI1_ii, rI2_ii, DL.ix_lst, DL.ix_tup, atI_0, atI_1, atI_2, atI_3, atI_4, atI_5, some_ex, bl_ex, int_ex, len_lst, len_tup, mul_ii, add_ii, add_ll, add_tt, add_ss, decide_eq_true_eq, D.tup.injEq, D.lst.injEq, D.dct.injEq, D.str.injEq, D.int.injEq, D.bl.injEq, D.ref.injEq, Nat.zero_add, Nat.add_zero, Nat.sub_self, Nat.add_one_sub_one, Nat.reduceAdd, Nat.reduceSub, cons_ex, pair_ex, sz_0, sz_1, sz_2, sz_3, sz_4, sz_5, sz_6, sz_7, sz_8, true_and, eq_self]
  refine ⟨q1, q2, pe, pn, ks, ss, el, nw, rfl, he, hn, hq1, hq2, hpe, hpn, n1, n2, npp, fun r1 r2 S1 e1 e2 e3 h1 h2 h3 k1 => ?_⟩
  simp only [dSeq, dIfS, dTb, d2, d1, dVar, dC, dRet, dSet, dPut, dNext, dCB, dCons, dNil, dTup, dLst, dCall, dAnd, dOr, dNot, dAndV, dOrV, dNotV, dChain, dDrop, dIf, dgName, dgNil, dgCons, dgTup, dAsg, dPar, startD, wipeD, List.map_cons, List.map_nil, List.length_cons, List.length_nil, List.replicate, List.cons_append, List.nil_append, List.append_nil, List.getElem?_cons_zero, List.getElem?_cons_succ, Option.some.injEq, exists_eq_left', exists_eq_left, List.set_cons_zero, List.set_cons_succ, rEq_ii, rEq_ss, rNe_ss, rI1_ii, rI2_ii, DL.ix_lst, DL.ix_tup, atI_0, atI_1, atI_2, atI_3, atI_4, atI_5, some_ex, bl_ex, int_ex, len_lst, len_tup, mul_ii, add_ii, add_ll, add_tt, add_ss, decide_eq_true_eq, D.tup.injEq, D.lst.injEq, D.dct.injEq, D.str.injEq, D.int.injEq, D.bl.injEq, D.ref.injEq, Nat.zero_add, Nat.add_zero, Nat.sub_self, Nat.add_one_sub_one, Nat.reduceAdd, Nat.reduceSub, cons_ex, pair_ex, sz_0, sz_1, sz_2, sz_3, sz_4, sz_5, sz_6, sz_7, sz_8, true_and, eq_self]
  refine ⟨2, rfl, by decide, by decide, ?_⟩
  refine loopC he hn hk hs pk ps pn2 (keep_ne k1 hh (by simpa using nh)) h1 h2 fun S2 g17' g18' k2 => ?_
  simp only [dSeq, dIfS, dTb, d2, d1, dVar, dC, dRet, dSet, dPut, dNext, dCB, dCons, dNil, dTup, dLst, dCall, dAnd, dOr, dNot, dAndV, dOrV, dNotV, dChain, dDrop, dIf, dgName, dgNil, dgCons, dgTup, dAsg, dPar, startD, wipeD, List.map_cons, List.map_nil, List.length_cons, List.length_nil, List.replicate, List.cons_append, List.nil_append, List.append_nil, List.getElem?_cons_zero, List.getElem?_cons_succ, Option.some.injEq, exists_eq_left', exists_eq_left, List.set_cons_zero, List.set_cons_succ, rEq_ii, rEq_ss, rNe_ss, rI1_ii, rI2_ii, DL.ix_lst, DL.ix_tup, atI_0, atI_1, atI_2, atI_3, atI_4, atI_5, some_ex, bl_ex, int_ex, len_lst, len_tup, mul_ii, add_ii, add_ll, add_tt, add_ss, decide_eq_true_eq, D.tup.injEq, D.lst.injEq, D.dct.injEq, D.str.injEq, D.int.injEq, D.bl.injEq, D.ref.injEq, Nat.zero_add, Nat.add_zero, Nat.sub_self, Nat.add_one_sub_one, Nat.reduceAdd, Nat.reduceSub, cons_ex, pair_ex, sz_0, sz_1, sz_2, sz_3, sz_4, sz_5, sz_6, sz_7, sz_8, true_and, eq_self]
  exact fin S2 _ _ _ _ ((hb.keep k1 (by simpa using nb)).keep k2 (by simp)) (h3.keep k2 (by simp))
end
theorem rd_law {ds : List D} {S : Own} {R : DVK} {RX : DXK} (h : splaw ds S R RX) : tlaw (En R) (startD Nlaw ds) S := by
  obtain ⟨sc, rfl, hl, q⟩ := h
  have hz := size1000
  simp only [tlaw, tlaw_s0, tlaw_s1, tlaw_s2, tlaw_s3, tlaw_s4, tlaw_s5, tlaw_s6, dSl, dNoPart, dPart, dFor, diRng1, dSeq, dIfS, dTb, d2, d1, dVar, dC, dRet, dSet, dPut, dNext, dCB, dCons, dNil, dTup, dLst, dCall, dAnd, dOr, dNot, dAndV, dOrV, dNotV, dChain, dDrop, dIf, dgName, dgNil, dgCons, dgTup, dAsg, dPar, startD, wipeD, List.map_cons, List.map_nil, List.length_cons, List.length_nil, List.replicate, List.cons_append, List.nil_append, List.append_nil, List.getElem?_cons_zero, List.getElem?_cons_succ, Option.some.injEq, exists_eq_left', exists_eq_left, List.set_cons_zero, List.set_cons_succ, rEq_ii, rEq_ss, rNe_ss, rI1_ii, rI2_ii, DL.ix_lst, DL.ix_tup, atI_0, atI_1, atI_2, atI_3, atI_4, atI_5, some_ex, bl_ex, int_ex, len_lst, len_tup, mul_ii, add_ii, add_ll, add_tt, add_ss, decide_eq_true_eq, D.tup.injEq, D.lst.injEq, D.dct.injEq, D.str.injEq, D.int.injEq, D.bl.injEq, D.ref.injEq, Nat.zero_add, Nat.add_zero, Nat.sub_self, Nat.add_one_sub_one, Nat.reduceAdd, Nat.reduceSub, cons_ex, pair_ex, sz_0, sz_1, sz_2, sz_3, sz_4, sz_5, sz_6, sz_7, sz_8, true_and, eq_self]
  refine ⟨sc, rfl, hl, fun b bag hb0 hbag => ?_⟩
  try simp only [dSeq, dIfS, dTb, d2, d1, dVar, dC, dRet, dSet, dPut, dNext, dCB, dCons, dNil, dTup, dLst, dCall, dAnd, dOr, dNot, dAndV, dOrV, dNotV, dChain, dDrop, dIf, dgName, dgNil, dgCons, dgTup, dAsg, dPar, startD, wipeD, List.map_cons, List.map_nil, List.length_cons, List.length_nil, List.replicate, List.cons_append, List.nil_append, List.append_nil, List.getElem?_cons_zero, List.getElem?_cons_succ, Option.some.injEq, exists_eq_left', exists_eq_left, List.set_cons_zero, List.set_cons_succ, rEq_ii, rEq_ss, rNe_ss, rI1_ii, rI2_ii, DL.ix_lst, DL.ix_tup, atI_0, atI_1, atI_2, atI_3, atI_4, atI_5, some_ex, bl_ex, int_ex, len_lst, len_tup, mul_ii, add_ii, add_ll, add_tt, add_ss, decide_eq_true_eq, D.tup.injEq, D.lst.injEq, D.dct.injEq, D.str.injEq, D.int.injEq, D.bl.injEq, D.ref.injEq, Nat.zero_add, Nat.add_zero, Nat.sub_self, Nat.add_one_sub_one, Nat.reduceAdd, Nat.reduceSub, cons_ex, pair_ex, sz_0, sz_1, sz_2, sz_3, sz_4, sz_5, sz_6, sz_7, sz_8, true_and, eq_self]
  have b0 : Bag (S.put b (.lst bag)) b := ⟨bag, Own.put_same, hbag⟩
  generalize S.put b (.lst bag) = S0 at b0
  refine ⟨b, rfl, b0, fun ns S1 nl nn b1 k1 => ?_⟩
  try simp only [dSeq, dIfS, dTb, d2, d1, dVar, dC, dRet, dSet, dPut, dNext, dCB, dCons, dNil, dTup, dLst, dCall, dAnd, dOr, dNot, dAndV, dOrV, dNotV, dChain, dDrop, dIf, dgName, dgNil, dgCons, dgTup, dAsg, dPar, startD, wipeD, List.map_cons, List.map_nil, List.length_cons, List.length_nil, List.replicate, List.cons_append, List.nil_append, List.append_nil, List.getElem?_cons_zero, List.getElem?_cons_succ, Option.some.injEq, exists_eq_left', exists_eq_left, List.set_cons_zero, List.set_cons_succ, rEq_ii, rEq_ss, rNe_ss, rI1_ii, rI2_ii, DL.ix_lst, DL.ix_tup, atI_0, atI_1, atI_2, atI_3, atI_4, atI_5, some_ex, bl_ex, int_ex, len_lst, len_tup, mul_ii, add_ii, add_ll, add_tt, add_ss, decide_eq_true_eq, D.tup.injEq, D.lst.injEq, D.dct.injEq, D.str.injEq, D.int.injEq, D.bl.injEq, D.ref.injEq, Nat.zero_add, Nat.add_zero, Nat.sub_self, Nat.add_one_sub_one, Nat.reduceAdd, Nat.reduceSub, cons_ex, pair_ex, sz_0, sz_1, sz_2, sz_3, sz_4, sz_5, sz_6, sz_7, sz_8, true_and, eq_self]
  have at' : ∀ (i : Nat) (hi : i < 16), atI (ns.map D.str) (i : Int) = some (.str (ns[i]'(by omega))) := fun i hi => DL.atI_nat (by rw [List.getElem?_map, List.getElem?_eq_getElem (by omega)]; rfl)
  refine ⟨_, at' 0 (by decide), _, at' 14 (by decide), _, at' 15 (by decide), ?_⟩
  have ne : ∀ (i j : Nat) (hi : i < ns.length) (hj : j < ns.length), i < j → ns[i] ≠ ns[j] := fun i j hi hj hij => List.pairwise_iff_getElem.mp nn i j hi hj hij
  refine sorted_strs (xs := [ns[0]'(by omega), ns[14]'(by omega), ns[15]'(by omega)]) fun os hos => ?_
  have osn : os.Nodup := hos.nodup_iff.mpr (by
    simp only [List.nodup_cons, List.mem_cons, List.not_mem_nil, or_false, not_or, not_false_eq_true, List.nodup_nil, and_true]
    exact ⟨⟨ne 0 14 _ _ (by decide), ne 0 15 _ _ (by decide)⟩, ne 14 15 _ _ (by decide)⟩)
  have osl : os.length = 3 := hos.length_eq
  refine take_step b1 (by decide) (by decide) fun v1 S2 a0 a1 b2 k2 => ?_
  try simp only [dSeq, dIfS, dTb, d2, d1, dVar, dC, dRet, dSet, dPut, dNext, dCB, dCons, dNil, dTup, dLst, dCall, dAnd, dOr, dNot, dAndV, dOrV, dNotV, dChain, dDrop, dIf, dgName, dgNil, dgCons, dgTup, dAsg, dPar, startD, wipeD, List.map_cons, List.map_nil, List.length_cons, List.length_nil, List.replicate, List.cons_append, List.nil_append, List.append_nil, List.getElem?_cons_zero, List.getElem?_cons_succ, Option.some.injEq, exists_eq_left', exists_eq_left, List.set_cons_zero, List.set_cons_succ, rEq_ii, rEq_ss, rNe_ss, rI1_ii, rI2_ii, DL.ix_lst, DL.ix_tup, atI_0, atI_1, atI_2, atI_3, atI_4, atI_5, some_ex, bl_ex, int_ex, len_lst, len_tup, mul_ii, add_ii, add_ll, add_tt, add_ss, decide_eq_true_eq, D.tup.injEq, D.lst.injEq, D.dct.injEq, D.str.injEq, D.int.injEq, D.bl.injEq, D.ref.injEq, Nat.zero_add, Nat.add_zero, Nat.sub_self, Nat.add_one_sub_one, Nat.reduceAdd, Nat.reduceSub, cons_ex, pair_ex, sz_0, sz_1, sz_2, sz_3, sz_4, sz_5, sz_6, sz_7, sz_8, true_and, eq_self]
  obtain ⟨n, en⟩ : ∃ n, atI [D.int 3, .int 3, .int 12] v1 = some (.int n) := by
    have : v1 = 0 ∨ v1 = 1 ∨ v1 = 2 := by omega
    rcases this with rfl | rfl | rfl
    · exact ⟨_, atI_0⟩
    · exact ⟨_, atI_1⟩
    · exact ⟨_, atI_2⟩
  refine ⟨_, en, n, rfl, ?_⟩
  obtain ⟨ms2, em, hms⟩ := cut_sub D.str ns none (some n)
  simp only [rSlD, em]
  refine sorted_strs fun ys hys => ?_
  have yn : ys.Nodup := hys.nodup_iff.mpr (hms.nodup nn)
  have yl : ys.length ≤ 16 := by rw [hys.length_eq, ← nl]; exact hms.length_le
  refine ⟨b, ys, os, rfl, yl, yn, osl, osn, b2, fun el0 p0 S3 he0 hp0 hS0 b3 k3 => ?_⟩
  have nbp0 : b ≠ p0 := fun e => by obtain ⟨bg, e1, _⟩ := b2; rw [← e, e1] at hp0; cases hp0
  refine take_step b3 (by decide) (by decide) fun v2 S4 a2 a3 b4 k4 => ?_
  simp only [dSeq, dIfS, dTb, d2, d1, dVar, dC, dRet, dSet, dPut, dNext, dCB, dCons, dNil, dTup, dLst, dCall, dAnd, dOr, dNot, dAndV, dOrV, dNotV, dChain, dDrop, dIf, dgName, dgNil, dgCons, dgTup, dAsg, dPar, startD, wipeD, List.map_cons, List.map_nil, List.length_cons, List.length_nil, List.replicate, List.cons_append, List.nil_append, List.append_nil, List.getElem?_cons_zero, List.getElem?_cons_succ, Option.some.injEq, exists_eq_left', exists_eq_left, List.set_cons_zero, List.set_cons_succ, rEq_ii, rEq_ss, rNe_ss, rI1_ii, rI2_ii, DL.ix_lst, DL.ix_tup, atI_0, atI_1, atI_2, atI_3, atI_4, atI_5, some_ex, bl_ex, int_ex, len_lst, len_tup, mul_ii, add_ii, add_ll, add_tt, add_ss, decide_eq_true_eq, D.tup.injEq, D.lst.injEq, D.dct.injEq, D.str.injEq, D.int.injEq, D.bl.injEq, D.ref.injEq, Nat.zero_add, Nat.add_zero, Nat.sub_self, Nat.add_one_sub_one, Nat.reduceAdd, Nat.reduceSub, cons_ex, pair_ex, sz_0, sz_1, sz_2, sz_3, sz_4, sz_5, sz_6, sz_7, sz_8, true_and, eq_self]
  refine ⟨_, rfl, by omega, by omega, ?_⟩
  have mk0 : MAt S4 p0 el0 := .inl (keep_ne k4 hS0 (by simpa using Ne.symm nbp0))
  clear k1 k2 k3 k4 hS0 hp0 b1 b2 b3 b0 hb0
  refine forRun_each (fun pre G' S' => (∃ pe el g5 g6 g7 g8 g9 g10 g11 g12 g13 g14 g15 g16 g17 g18, G' = [some (.lst (sc.map D.int)), some (.ref b), some (.lst (ys.map D.str)), some (.lst (os.map D.str)), some (.ref pe), g5, g6, g7, g8, g9, g10, g11, g12, g13, g14, g15, g16, g17, g18] ∧ MsOk el ∧ MAt S' pe el ∧ b ≠ pe) ∧ Bag S' b) ⟨⟨p0, el0, _, _, _, _, _, _, _, _, _, _, _, _, _, _, rfl, he0, mk0, nbp0⟩, b4⟩ ?_ ?_
  · rintro pre x post G' S5 K _ ⟨⟨pe, el, g5, g6, g7, g8, g9, g10, g11, g12, g13, g14, g15, g16, g17, g18, rfl, he, hpe, nbe⟩, b5⟩ k
    refine ⟨trivial, ?_⟩
    have tail := fun pn h q1 q2 nw nw2 ks ks1 ss ss1 g5 g7 g8 g9 g10 g13 g15 g16 g17 g18 S => @tail_b3 { nx := K, rt := R, bk := (fun G S => R (.bl true) S), ct := K } b pe pn h q1 q2 el nw nw2 ks ks1 ss ss1 (some (.lst (sc.map D.int))) (some (.lst (ys.map D.str))) (some (.lst (os.map D.str))) g5 g7 g8 g9 g10 g13 g15 g16 g17 g18 S he
    show tlaw_b3 { nx := K, rt := R, bk := (fun G S => R (.bl true) S), ct := K } _ S5
    generalize hD : ({ nx := K, rt := R, bk := (fun G S => R (.bl true) S), ct := K } : DEnds) = Dn at tail ⊢
    unfold tailT at tail
    simp only [tlaw_b3]
    generalize dSeq (dPar 15 16 _) _ = T at tail ⊢
    simp only [dFor, diLst, dLc, dSeq, dIfS, dTb, d2, d1, dVar, dC, dRet, dSet, dPut, dNext, dCB, dCons, dNil, dTup, dLst, dCall, dAnd, dOr, dNot, dAndV, dOrV, dNotV, dChain, dDrop, dIf, dgName, dgNil, dgCons, dgTup, dAsg, dPar, startD, wipeD, List.map_cons, List.map_nil, List.length_cons, List.length_nil, List.replicate, List.cons_append, List.nil_append, List.append_nil, List.getElem?_cons_zero, List.getElem?_cons_succ, Option.some.injEq, exists_eq_left', exists_eq_left, List.set_cons_zero, List.set_cons_succ, rEq_ii, rEq_ss, rNe_ss, rI1_ii, rI2_ii, DL.ix_lst, DL.ix_tup, atI_0, atI_1, atI_2, atI_3, atI_4, atI_5, some_ex, bl_ex, int_ex, len_lst, len_tup, mul_ii, add_ii, add_ll, add_tt, add_ss, decide_eq_true_eq, D.tup.injEq, D.lst.injEq, D.dct.injEq, D.str.injEq, D.int.injEq, D.bl.injEq, D.ref.injEq, Nat.zero_add, Nat.add_zero, Nat.sub_self, Nat.add_one_sub_one, Nat.reduceAdd, Nat.reduceSub, cons_ex, pair_ex, sz_0, sz_1, sz_2, sz_3, sz_4, sz_5, sz_6, sz_7, sz_8, true_and, eq_self]
    refine ⟨b, ys, os, rfl, yl, yn, osl, osn, b5, fun nw0 pn S6 hn0 hpn0 hS6 b6 k6 => ?_⟩
    have nbpn : b ≠ pn := fun e => by obtain ⟨bg, e1, _⟩ := b5; rw [← e, e1] at hpn0; cases hpn0
    have npp : pe ≠ pn := fun e => by rcases hpe with e1 | ⟨z, e1⟩ <;> rw [e, hpn0] at e1 <;> cases e1
    have hpe6 := hpe.keep k6 (by simpa using Ne.symm nbe)
    try simp only [dSeq, dIfS, dTb, d2, d1, dVar, dC, dRet, dSet, dPut, dNext, dCB, dCons, dNil, dTup, dLst, dCall, dAnd, dOr, dNot, dAndV, dOrV, dNotV, dChain, dDrop, dIf, dgName, dgNil, dgCons, dgTup, dAsg, dPar, startD, wipeD, List.map_cons, List.map_nil, List.length_cons, List.length_nil, List.replicate, List.cons_append, List.nil_append, List.append_nil, List.getElem?_cons_zero, List.getElem?_cons_succ, Option.some.injEq, exists_eq_left', exists_eq_left, List.set_cons_zero, List.set_cons_succ, rEq_ii, rEq_ss, rNe_ss, rI1_ii, rI2_ii, DL.ix_lst, DL.ix_tup, atI_0, atI_1, atI_2, atI_3, atI_4, atI_5, some_ex, bl_ex, int_ex, len_lst, len_tup, mul_ii, add_ii, add_ll, add_tt, add_ss, decide_eq_true_eq, D.tup.injEq, D.lst.injEq, D.dct.injEq, D.str.injEq, D.int.injEq, D.bl.injEq, D.ref.injEq, Nat.zero_add, Nat.add_zero, Nat.sub_self, Nat.add_one_sub_one, Nat.reduceAdd, Nat.reduceSub, cons_ex, pair_ex, sz_0, sz_1, sz_2, sz_3, sz_4, sz_5, sz_6, sz_7, sz_8, true_and, eq_self]
    refine sorted_parts hpe6.dic fun xs hxs => ?_
    try simp only [dSeq, dIfS, dTb, d2, d1, dVar, dC, dRet, dSet, dPut, dNext, dCB, dCons, dNil, dTup, dLst, dCall, dAnd, dOr, dNot, dAndV, dOrV, dNotV, dChain, dDrop, dIf, dgName, dgNil, dgCons, dgTup, dAsg, dPar, startD, wipeD, List.map_cons, List.map_nil, List.length_cons, List.length_nil, List.replicate, List.cons_append, List.nil_append, List.append_nil, List.getElem?_cons_zero, List.getElem?_cons_succ, Option.some.injEq, exists_eq_left', exists_eq_left, List.set_cons_zero, List.set_cons_succ, rEq_ii, rEq_ss, rNe_ss, rI1_ii, rI2_ii, DL.ix_lst, DL.ix_tup, atI_0, atI_1, atI_2, atI_3, atI_4, atI_5, some_ex, bl_ex, int_ex, len_lst, len_tup, mul_ii, add_ii, add_ll, add_tt, add_ss, decide_eq_true_eq, D.tup.injEq, D.lst.injEq, D.dct.injEq, D.str.injEq, D.int.injEq, D.bl.injEq, D.ref.injEq, Nat.zero_add, Nat.add_zero, Nat.sub_self, Nat.add_one_sub_one, Nat.reduceAdd, Nat.reduceSub, cons_ex, pair_ex, sz_0, sz_1, sz_2, sz_3, sz_4, sz_5, sz_6, sz_7, sz_8, true_and, eq_self]
    refine loopA he hn0.semi (fun x hx => hxs.mem_iff.mp hx) hpe6 hS6 b6 nbpn nbe npp fun nw1 S7 g8' hn1 hpn1 hpe1 b7 => ?_
    simp only [dFor, diLst, dLc, dSeq, dIfS, dTb, d2, d1, dVar, dC, dRet, dSet, dPut, dNext, dCB, dCons, dNil, dTup, dLst, dCall, dAnd, dOr, dNot, dAndV, dOrV, dNotV, dChain, dDrop, dIf, dgName, dgNil, dgCons, dgTup, dAsg, dPar, startD, wipeD, List.map_cons, List.map_nil, List.length_cons, List.length_nil, List.replicate, List.cons_append, List.nil_append, List.append_nil, List.getElem?_cons_zero, List.getElem?_cons_succ, Option.some.injEq, exists_eq_left', exists_eq_left, List.set_cons_zero, List.set_cons_succ, rEq_ii, rEq_ss, rNe_ss, rI1_ii, rI2_ii, DL.ix_lst, DL.ix_tup, atI_0, atI_1, atI_2, atI_3, atI_4, atI_5, some_ex, bl_ex, int_ex, len_lst, len_tup, mul_ii, add_ii, add_ll, add_tt, add_ss, decide_eq_true_eq, D.tup.injEq, D.lst.injEq, D.dct.injEq, D.str.injEq, D.int.injEq, D.bl.injEq, D.ref.injEq, Nat.zero_add, Nat.add_zero, Nat.sub_self, Nat.add_one_sub_one, Nat.reduceAdd, Nat.reduceSub, cons_ex, pair_ex, sz_0, sz_1, sz_2, sz_3, sz_4, sz_5, sz_6, sz_7, sz_8, true_and, eq_self]
    refine sorted_parts (dic_at hpn1) fun xs2 hxs2 => ?_
    try simp only [dSeq, dIfS, dTb, d2, d1, dVar, dC, dRet, dSet, dPut, dNext, dCB, dCons, dNil, dTup, dLst, dCall, dAnd, dOr, dNot, dAndV, dOrV, dNotV, dChain, dDrop, dIf, dgName, dgNil, dgCons, dgTup, dAsg, dPar, startD, wipeD, List.map_cons, List.map_nil, List.length_cons, List.length_nil, List.replicate, List.cons_append, List.nil_append, List.append_nil, List.getElem?_cons_zero, List.getElem?_cons_succ, Option.some.injEq, exists_eq_left', exists_eq_left, List.set_cons_zero, List.set_cons_succ, rEq_ii, rEq_ss, rNe_ss, rI1_ii, rI2_ii, DL.ix_lst, DL.ix_tup, atI_0, atI_1, atI_2, atI_3, atI_4, atI_5, some_ex, bl_ex, int_ex, len_lst, len_tup, mul_ii, add_ii, add_ll, add_tt, add_ss, decide_eq_true_eq, D.tup.injEq, D.lst.injEq, D.dct.injEq, D.str.injEq, D.int.injEq, D.bl.injEq, D.ref.injEq, Nat.zero_add, Nat.add_zero, Nat.sub_self, Nat.add_one_sub_one, Nat.reduceAdd, Nat.reduceSub, cons_ex, pair_ex, sz_0, sz_1, sz_2, sz_3, sz_4, sz_5, sz_6, sz_7, sz_8, true_and, eq_self]
    refine loopB hn1 hxs2 hpe1 hpn1 b7 nbpn npp fun nw S8 g7' g8'' g9' hn hpn hpe8 b8 => ?_
    simp only [dLc, diLst, rNegD, dSeq, dIfS, dTb, d2, d1, dVar, dC, dRet, dSet, dPut, dNext, dCB, dCons, dNil, dTup, dLst, dCall, dAnd, dOr, dNot, dAndV, dOrV, dNotV, dChain, dDrop, dIf, dgName, dgNil, dgCons, dgTup, dAsg, dPar, startD, wipeD, List.map_cons, List.map_nil, List.length_cons, List.length_nil, List.replicate, List.cons_append, List.nil_append, List.append_nil, List.getElem?_cons_zero, List.getElem?_cons_succ, Option.some.injEq, exists_eq_left', exists_eq_left, List.set_cons_zero, List.set_cons_succ, rEq_ii, rEq_ss, rNe_ss, rI1_ii, rI2_ii, DL.ix_lst, DL.ix_tup, atI_0, atI_1, atI_2, atI_3, atI_4, atI_5, some_ex, bl_ex, int_ex, len_lst, len_tup, mul_ii, add_ii, add_ll, add_tt, add_ss, decide_eq_true_eq, D.tup.injEq, D.lst.injEq, D.dct.injEq, D.str.injEq, D.int.injEq, D.bl.injEq, D.ref.injEq, Nat.zero_add, Nat.add_zero, Nat.sub_self, Nat.add_one_sub_one, Nat.reduceAdd, Nat.reduceSub, cons_ex, pair_ex, sz_0, sz_1, sz_2, sz_3, sz_4, sz_5, sz_6, sz_7, sz_8, true_and, eq_self]
    refine ⟨b, pe, el, rfl, nbe, he, b8, hpe8, fun ks ss q1 q2 S9 ek es hq1 hq2 n12 h1 h2 b9 hpe9 k9 => ?_⟩
    have n1p : q1 ≠ pn := fun e => by rw [e, hpn] at hq1; cases hq1
    have n2p : q2 ≠ pn := fun e => by rw [e, hpn] at hq2; cases hq2
    have n1b : q1 ≠ b := fun e => by obtain ⟨bg, e1, _⟩ := b8; rw [e, e1] at hq1; cases hq1
    have n2b : q2 ≠ b := fun e => by obtain ⟨bg, e1, _⟩ := b8; rw [e, e1] at hq2; cases hq2
    have n1e : q1 ≠ pe := fun e => by rcases hpe8 with e1 | ⟨z, e1⟩ <;> rw [← e, hq1] at e1 <;> cases e1
    have n2e : q2 ≠ pe := fun e => by rcases hpe8 with e1 | ⟨z, e1⟩ <;> rw [← e, hq2] at e1 <;> cases e1
    have hpn9 : S9 pn = _ := keep_ne k9 hpn (by simp; exact ⟨Ne.symm nbpn, Ne.symm npp⟩)
    simp only [rNegD, dSeq, dIfS, dTb, d2, d1, dVar, dC, dRet, dSet, dPut, dNext, dCB, dCons, dNil, dTup, dLst, dCall, dAnd, dOr, dNot, dAndV, dOrV, dNotV, dChain, dDrop, dIf, dgName, dgNil, dgCons, dgTup, dAsg, dPar, startD, wipeD, List.map_cons, List.map_nil, List.length_cons, List.length_nil, List.replicate, List.cons_append, List.nil_append, List.append_nil, List.getElem?_cons_zero, List.getElem?_cons_succ, Option.some.injEq, exists_eq_left', exists_eq_left, List.set_cons_zero, List.set_cons_succ, rEq_ii, rEq_ss, rNe_ss, rI1_ii, rI2_ii, DL.ix_lst, DL.ix_tup, atI_0, atI_1, atI_2, atI_3, atI_4, atI_5, some_ex, bl_ex, int_ex, len_lst, len_tup, mul_ii, add_ii, add_ll, add_tt, add_ss, decide_eq_true_eq, D.tup.injEq, D.lst.injEq, D.dct.injEq, D.str.injEq, D.int.injEq, D.bl.injEq, D.ref.injEq, Nat.zero_add, Nat.add_zero, Nat.sub_self, Nat.add_one_sub_one, Nat.reduceAdd, Nat.reduceSub, cons_ex, pair_ex, sz_0, sz_1, sz_2, sz_3, sz_4, sz_5, sz_6, sz_7, sz_8, true_and, eq_self]
    refine take_step b9 (by decide) (by decide) fun v3 S10 a4 a5 b10 k10 => ?_
    try simp only [dSeq, dIfS, dTb, d2, d1, dVar, dC, dRet, dSet, dPut, dNext, dCB, dCons, dNil, dTup, dLst, dCall, dAnd, dOr, dNot, dAndV, dOrV, dNotV, dChain, dDrop, dIf, dgName, dgNil, dgCons, dgTup, dAsg, dPar, startD, wipeD, List.map_cons, List.map_nil, List.length_cons, List.length_nil, List.replicate, List.cons_append, List.nil_append, List.append_nil, List.getElem?_cons_zero, List.getElem?_cons_succ, Option.some.injEq, exists_eq_left', exists_eq_left, List.set_cons_zero, List.set_cons_succ, rEq_ii, rEq_ss, rNe_ss, rI1_ii, rI2_ii, DL.ix_lst, DL.ix_tup, atI_0, atI_1, atI_2, atI_3, atI_4, atI_5, some_ex, bl_ex, int_ex, len_lst, len_tup, mul_ii, add_ii, add_ll, add_tt, add_ss, decide_eq_true_eq, D.tup.injEq, D.lst.injEq, D.dct.injEq, D.str.injEq, D.int.injEq, D.bl.injEq, D.ref.injEq, Nat.zero_add, Nat.add_zero, Nat.sub_self, Nat.add_one_sub_one, Nat.reduceAdd, Nat.reduceSub, cons_ex, pair_ex, sz_0, sz_1, sz_2, sz_3, sz_4, sz_5, sz_6, sz_7, sz_8, true_and, eq_self]
    obtain ⟨tn, etn, htn⟩ : ∃ tn, atI [D.int 1, .int (-1)] v3 = some (.int tn) ∧ (tn = 1 ∨ tn = -1) := by
      have : v3 = 0 ∨ v3 = 1 := by omega
      rcases this with rfl | rfl
      · exact ⟨_, atI_0, .inl rfl⟩
      · exact ⟨_, atI_1, .inr rfl⟩
    refine ⟨_, etn, ?_⟩
    have h1' : S10 q1 = _ := keep_ne k10 h1 (by simpa using n1b)
    have h2' : S10 q2 = _ := keep_ne k10 h2 (by simpa using n2b)
    have hpn10 : S10 pn = _ := keep_ne k10 hpn9 (by simpa using Ne.symm nbpn)
    have hpe10 := hpe9.keep k10 (by simpa using Ne.symm nbe)
    have nk : (ks.map (·.1)).Nodup := by rw [ek]; exact spots_nodup he
    have nsn : (ss.map (·.1)).Nodup := by rw [es]; exact he.owns
    refine sorted_dict (tn := tn) (a := q1) (fun R' r => by first | exact ⟨_, rfl, r⟩ | exact r) (fun R' r => by first | exact ⟨_, rfl, r⟩ | exact r) htn (dic_at h1') (items_keys ks) (keys_ok nk) fun ds1 es1 pe1 l1 p1 m1 => ?_
    refine dict_back l1 p1 m1 ((keys_ok nk).perm pe1.symm) ?_
    obtain ⟨ks1, pk, ek1⟩ := L2.perm_lift (fun p : Spot × Int => (spotD p.1, D.int p.2)) pe1 ks rfl
    have ek1 : keysD ks1 = es1 := ek1
    subst ek1
    refine sorted_dict (tn := tn) (a := q2) (fun R' r => by first | exact ⟨_, rfl, r⟩ | exact r) (fun R' r => by first | exact ⟨_, rfl, r⟩ | exact r) htn (dic_at h2') (items_shelves ss) (shelves_ok nsn) fun ds2 es2 pe2 l2 p2 m2 => ?_
    refine dict_back l2 p2 m2 ((shelves_ok nsn).perm pe2.symm) ?_
    obtain ⟨ss1, ps, es1'⟩ := L2.perm_lift (fun p : Str × Int => (D.str p.1, D.int p.2)) pe2 ss rfl
    have es1' : shelvesD ss1 = es2 := es1'
    subst es1'
    try simp only [dSeq, dIfS, dTb, d2, d1, dVar, dC, dRet, dSet, dPut, dNext, dCB, dCons, dNil, dTup, dLst, dCall, dAnd, dOr, dNot, dAndV, dOrV, dNotV, dChain, dDrop, dIf, dgName, dgNil, dgCons, dgTup, dAsg, dPar, startD, wipeD, List.map_cons, List.map_nil, List.length_cons, List.length_nil, List.replicate, List.cons_append, List.nil_append, List.append_nil, List.getElem?_cons_zero, List.getElem?_cons_succ, Option.some.injEq, exists_eq_left', exists_eq_left, List.set_cons_zero, List.set_cons_succ, rEq_ii, rEq_ss, rNe_ss, rI1_ii, rI2_ii, DL.ix_lst, DL.ix_tup, atI_0, atI_1, atI_2, atI_3, atI_4, atI_5, some_ex, bl_ex, int_ex, len_lst, len_tup, mul_ii, add_ii, add_ll, add_tt, add_ss, decide_eq_true_eq, D.tup.injEq, D.lst.injEq, D.dct.injEq, D.str.injEq, D.int.injEq, D.bl.injEq, D.ref.injEq, Nat.zero_add, Nat.add_zero, Nat.sub_self, Nat.add_one_sub_one, Nat.reduceAdd, Nat.reduceSub, cons_ex, pair_ex, sz_0, sz_1, sz_2, sz_3, sz_4, sz_5, sz_6, sz_7, sz_8, true_and, eq_self]
    refine di_keys_ref (a := pe) (es := makesD el) (fun R' r => by first | exact ⟨_, rfl, r⟩ | exact r) hpe10 fun z S11 hz11 hk11 => ?_
    rw [makes_keys]
    refine lcRun_map (fun m : Make => D.str m.part) (fun m => some m.d) (by have := he.few; omega) hz11 (fun m hm K2 kk => ?_) ?_
    · have d11 : dicOf S11 (.ref pe) = some (makesD el) := by simp only [dicOf, hz11]
      simp only [dYes, ix_mkE d11 he.parts hm, if_true, dSeq, dIfS, dTb, d2, d1, dVar, dC, dRet, dSet, dPut, dNext, dCB, dCons, dNil, dTup, dLst, dCall, dAnd, dOr, dNot, dAndV, dOrV, dNotV, dChain, dDrop, dIf, dgName, dgNil, dgCons, dgTup, dAsg, dPar, startD, wipeD, List.map_cons, List.map_nil, List.length_cons, List.length_nil, List.replicate, List.cons_append, List.nil_append, List.append_nil, List.getElem?_cons_zero, List.getElem?_cons_succ, Option.some.injEq, exists_eq_left', exists_eq_left, List.set_cons_zero, List.set_cons_succ, rEq_ii, rEq_ss, rNe_ss, rI1_ii, rI2_ii, DL.ix_lst, DL.ix_tup, atI_0, atI_1, atI_2, atI_3, atI_4, atI_5, some_ex, bl_ex, int_ex, len_lst, len_tup, mul_ii, add_ii, add_ll, add_tt, add_ss, decide_eq_true_eq, D.tup.injEq, D.lst.injEq, D.dct.injEq, D.str.injEq, D.int.injEq, D.bl.injEq, D.ref.injEq, Nat.zero_add, Nat.add_zero, Nat.sub_self, Nat.add_one_sub_one, Nat.reduceAdd, Nat.reduceSub, cons_ex, pair_ex, sz_0, sz_1, sz_2, sz_3, sz_4, sz_5, sz_6, sz_7, sz_8, true_and, eq_self]
      exact kk
    have ef : ∀ l : List Make, (l.filterMap fun m => some m.d) = l.map Make.d := fun l => congrFun List.filterMap_eq_map l
    rw [ef]
    try simp only [dSeq, dIfS, dTb, d2, d1, dVar, dC, dRet, dSet, dPut, dNext, dCB, dCons, dNil, dTup, dLst, dCall, dAnd, dOr, dNot, dAndV, dOrV, dNotV, dChain, dDrop, dIf, dgName, dgNil, dgCons, dgTup, dAsg, dPar, startD, wipeD, List.map_cons, List.map_nil, List.length_cons, List.length_nil, List.replicate, List.cons_append, List.nil_append, List.append_nil, List.getElem?_cons_zero, List.getElem?_cons_succ, Option.some.injEq, exists_eq_left', exists_eq_left, List.set_cons_zero, List.set_cons_succ, rEq_ii, rEq_ss, rNe_ss, rI1_ii, rI2_ii, DL.ix_lst, DL.ix_tup, atI_0, atI_1, atI_2, atI_3, atI_4, atI_5, some_ex, bl_ex, int_ex, len_lst, len_tup, mul_ii, add_ii, add_ll, add_tt, add_ss, decide_eq_true_eq, D.tup.injEq, D.lst.injEq, D.dct.injEq, D.str.injEq, D.int.injEq, D.bl.injEq, D.ref.injEq, Nat.zero_add, Nat.add_zero, Nat.sub_self, Nat.add_one_sub_one, Nat.reduceAdd, Nat.reduceSub, cons_ex, pair_ex, sz_0, sz_1, sz_2, sz_3, sz_4, sz_5, sz_6, sz_7, sz_8, true_and, eq_self]
    have hpn11 : S11 pn = some (.dct (makesD nw)) := by rw [hk11 pn (Ne.symm npp)]; exact hpn10
    refine sorted_parts (dic_at hpn11) fun ys2 hys2 => ?_
    obtain ⟨nw2, pnw, eys⟩ := L2.perm_lift (fun m : Make => m.part) hys2 nw rfl
    subst eys
    try simp only [dSeq, dIfS, dTb, d2, d1, dVar, dC, dRet, dSet, dPut, dNext, dCB, dCons, dNil, dTup, dLst, dCall, dAnd, dOr, dNot, dAndV, dOrV, dNotV, dChain, dDrop, dIf, dgName, dgNil, dgCons, dgTup, dAsg, dPar, startD, wipeD, List.map_cons, List.map_nil, List.length_cons, List.length_nil, List.replicate, List.cons_append, List.nil_append, List.append_nil, List.getElem?_cons_zero, List.getElem?_cons_succ, Option.some.injEq, exists_eq_left', exists_eq_left, List.set_cons_zero, List.set_cons_succ, rEq_ii, rEq_ss, rNe_ss, rI1_ii, rI2_ii, DL.ix_lst, DL.ix_tup, atI_0, atI_1, atI_2, atI_3, atI_4, atI_5, some_ex, bl_ex, int_ex, len_lst, len_tup, mul_ii, add_ii, add_ll, add_tt, add_ss, decide_eq_true_eq, D.tup.injEq, D.lst.injEq, D.dct.injEq, D.str.injEq, D.int.injEq, D.bl.injEq, D.ref.injEq, Nat.zero_add, Nat.add_zero, Nat.sub_self, Nat.add_one_sub_one, Nat.reduceAdd, Nat.reduceSub, cons_ex, pair_ex, sz_0, sz_1, sz_2, sz_3, sz_4, sz_5, sz_6, sz_7, sz_8, true_and, eq_self]
    rw [List.map_map]
    refine lcRun_map (fun m : Make => D.str m.part) (fun m => some m.d) (by have := hn.few; rw [pnw.length_eq]; omega) trivial (fun m hm K2 kk => ?_) ?_
    · simp only [dYes, ix_mkE (dic_at hpn11) hn.parts (pnw.mem_iff.mp hm), if_true, dSeq, dIfS, dTb, d2, d1, dVar, dC, dRet, dSet, dPut, dNext, dCB, dCons, dNil, dTup, dLst, dCall, dAnd, dOr, dNot, dAndV, dOrV, dNotV, dChain, dDrop, dIf, dgName, dgNil, dgCons, dgTup, dAsg, dPar, startD, wipeD, List.map_cons, List.map_nil, List.length_cons, List.length_nil, List.replicate, List.cons_append, List.nil_append, List.append_nil, List.getElem?_cons_zero, List.getElem?_cons_succ, Option.some.injEq, exists_eq_left', exists_eq_left, List.set_cons_zero, List.set_cons_succ, rEq_ii, rEq_ss, rNe_ss, rI1_ii, rI2_ii, DL.ix_lst, DL.ix_tup, atI_0, atI_1, atI_2, atI_3, atI_4, atI_5, some_ex, bl_ex, int_ex, len_lst, len_tup, mul_ii, add_ii, add_ll, add_tt, add_ss, decide_eq_true_eq, D.tup.injEq, D.lst.injEq, D.dct.injEq, D.str.injEq, D.int.injEq, D.bl.injEq, D.ref.injEq, Nat.zero_add, Nat.add_zero, Nat.sub_self, Nat.add_one_sub_one, Nat.reduceAdd, Nat.reduceSub, cons_ex, pair_ex, sz_0, sz_1, sz_2, sz_3, sz_4, sz_5, sz_6, sz_7, sz_8, true_and, eq_self]
      exact kk
    rw [ef]
    refine ⟨_, _, rfl, rfl, by simp; omega, fun h hh => ?_⟩
    simp only [dSeq, dIfS, dTb, d2, d1, dVar, dC, dRet, dSet, dPut, dNext, dCB, dCons, dNil, dTup, dLst, dCall, dAnd, dOr, dNot, dAndV, dOrV, dNotV, dChain, dDrop, dIf, dgName, dgNil, dgCons, dgTup, dAsg, dPar, startD, wipeD, List.map_cons, List.map_nil, List.length_cons, List.length_nil, List.replicate, List.cons_append, List.nil_append, List.append_nil, List.getElem?_cons_zero, List.getElem?_cons_succ, Option.some.injEq, exists_eq_left', exists_eq_left, List.set_cons_zero, List.set_cons_succ, rEq_ii, rEq_ss, rNe_ss, rI1_ii, rI2_ii, DL.ix_lst, DL.ix_tup, atI_0, atI_1, atI_2, atI_3, atI_4, atI_5, some_ex, bl_ex, int_ex, len_lst, len_tup, mul_ii, add_ii, add_ll, add_tt, add_ss, decide_eq_true_eq, D.tup.injEq, D.lst.injEq, D.dct.injEq, D.str.injEq, D.int.injEq, D.bl.injEq, D.ref.injEq, Nat.zero_add, Nat.add_zero, Nat.sub_self, Nat.add_one_sub_one, Nat.reduceAdd, Nat.reduceSub, cons_ex, pair_ex, sz_0, sz_1, sz_2, sz_3, sz_4, sz_5, sz_6, sz_7, sz_8, true_and, eq_self]
    have kh : Keep S11 (S11.put h (.lst (handD ks1 ss1 el nw2))) [] := keep_new hh
    have hbh : b ≠ h := fun e => by obtain ⟨bg, e1, _⟩ := b10; have := hk11 b nbe; rw [e1, e, hh] at this; cases this
    have b11 : Bag (S11.put h (.lst (handD ks1 ss1 el nw2))) b := by
      obtain ⟨bg, e1, e2⟩ := b10
      exact ⟨bg, by rw [Own.put_ne hbh, hk11 b nbe]; exact e1, e2⟩
    have npnh : h ≠ pn := fun e => by rw [e, hpn11] at hh; cases hh
    refine take_step b11 (by decide) (by decide) fun v4 S12 a6 a7 b12 k12 => ?_
    try simp only [dSeq, dIfS, dTb, d2, d1, dVar, dC, dRet, dSet, dPut, dNext, dCB, dCons, dNil, dTup, dLst, dCall, dAnd, dOr, dNot, dAndV, dOrV, dNotV, dChain, dDrop, dIf, dgName, dgNil, dgCons, dgTup, dAsg, dPar, startD, wipeD, List.map_cons, List.map_nil, List.length_cons, List.length_nil, List.replicate, List.cons_append, List.nil_append, List.append_nil, List.getElem?_cons_zero, List.getElem?_cons_succ, Option.some.injEq, exists_eq_left', exists_eq_left, List.set_cons_zero, List.set_cons_succ, rEq_ii, rEq_ss, rNe_ss, rI1_ii, rI2_ii, DL.ix_lst, DL.ix_tup, atI_0, atI_1, atI_2, atI_3, atI_4, atI_5, some_ex, bl_ex, int_ex, len_lst, len_tup, mul_ii, add_ii, add_ll, add_tt, add_ss, decide_eq_true_eq, D.tup.injEq, D.lst.injEq, D.dct.injEq, D.str.injEq, D.int.injEq, D.bl.injEq, D.ref.injEq, Nat.zero_add, Nat.add_zero, Nat.sub_self, Nat.add_one_sub_one, Nat.reduceAdd, Nat.reduceSub, cons_ex, pair_ex, sz_0, sz_1, sz_2, sz_3, sz_4, sz_5, sz_6, sz_7, sz_8, true_and, eq_self]
    have k13 : ∀ {a : Addr} {o : SO}, S11 a = some o → a ≠ b → S12 a = some o := fun e n => keep_ne k12 (kh _ _ e (by simp)) (by simpa using n)
    have hh12 : S12 h = some (.lst (handD ks1 ss1 el nw2)) := keep_ne k12 Own.put_same (by simpa using Ne.symm hbh)
    have g1 : S12 q1 = some (.dct (keysD ks)) := k13 (by rw [hk11 q1 n1e]; exact h1') n1b
    have g2 : S12 q2 = some (.dct (shelvesD ss)) := k13 (by rw [hk11 q2 n2e]; exact h2') n2b
    have g3 : MAt S12 pe el := .inr ⟨z, k13 hz11 (Ne.symm nbe)⟩
    have g4 : S12 pn = some (.dct (makesD nw)) := k13 hpn11 (Ne.symm nbpn)
    have nqh : ∀ {a : Addr} {o : SO}, S11 a = some o → a ≠ h := fun e n => by rw [n, hh] at e; cases e
    have fin : ∀ S' g5 g7 g8 g9 g10 q1 q2 g13 h g15' g16' g17' g18', Bag S' b → MAt S' pn nw → Dn.nx [some (.lst (sc.map D.int)), some (.ref b), some (.lst (ys.map D.str)), some (.lst (os.map D.str)), some (.ref pn), g5, some (.ref pn), g7, g8, g9, g10, q1, q2, g13, h, g15', g16', g17', g18'] S' := fun S' g5 g7 g8 g9 g10 q1 q2 g13 h g15' g16' g17' g18' hb hm => by
      subst hD
      exact k _ _ ⟨⟨pn, nw, _, _, _, _, _, _, _, _, _, _, _, _, _, _, rfl, hn, hm, nbpn⟩, hb⟩
    by_cases hv : v4 = 0
    · rw [if_pos hv]
      simp only [dStep, dPart, rNegD, dSeq, dIfS, dTb, d2, d1, dVar, dC, dRet, dSet, dPut, dNext, dCB, dCons, dNil, dTup, dLst, dCall, dAnd, dOr, dNot, dAndV, dOrV, dNotV, dChain, dDrop, dIf, dgName, dgNil, dgCons, dgTup, dAsg, dPar, startD, wipeD, List.map_cons, List.map_nil, List.length_cons, List.length_nil, List.replicate, List.cons_append, List.nil_append, List.append_nil, List.getElem?_cons_zero, List.getElem?_cons_succ, Option.some.injEq, exists_eq_left', exists_eq_left, List.set_cons_zero, List.set_cons_succ, rEq_ii, rEq_ss, rNe_ss, rI1_ii, rI2_ii, DL.ix_lst, DL.ix_tup, atI_0, atI_1, atI_2, atI_3, atI_4, atI_5, some_ex, bl_ex, int_ex, len_lst, len_tup, mul_ii, add_ii, add_ll, add_tt, add_ss, decide_eq_true_eq, D.tup.injEq, D.lst.injEq, D.dct.injEq, D.str.injEq, D.int.injEq, D.bl.injEq, D.ref.injEq, Nat.zero_add, Nat.add_zero, Nat.sub_self, Nat.add_one_sub_one, Nat.reduceAdd, Nat.reduceSub, cons_ex, pair_ex, sz_0, sz_1, sz_2, sz_3, sz_4, sz_5, sz_6, sz_7, sz_8, true_and, eq_self]
      rw [ix_rl hh12]
      refine ⟨_, atI_3, _, rfl, .inr ⟨rfl, ?_⟩⟩
      show rSetD (.ref h) (.int 3) _ S12 _
      rw [set_rl hh12]
      refine ⟨3, rfl, ?_⟩
      rw [← List.map_reverse]
      have kp : Keep S12 (S12.put h (.lst (handD ks1 ss1 el nw2.reverse))) [h] := keep_put (by simp)
      refine tail _ _ _ _ _ _ _ _ _ _ _ _ _ _ _ _ _ _ _ _ _ hn ek es pk ps ((List.reverse_perm nw2).trans pnw) (b12.keep kp (by simpa using hbh)) npp n1p n2p npnh nbpn ?_ ?_ (g3.keep kp ?_) (.inl ?_) Own.put_same fun S' _ _ _ _ => fin S' _ _ _ _ _ _ _ _ _ _ _ _ _
      · exact keep_ne kp g1 (by simpa using nqh (show S11 q1 = _ by rw [hk11 q1 n1e]; exact h1'))
      · exact keep_ne kp g2 (by simpa using nqh (show S11 q2 = _ by rw [hk11 q2 n2e]; exact h2'))
      · simpa using nqh hz11
      · exact keep_ne kp g4 (by simpa using Ne.symm npnh)
    · rw [if_neg hv]
      exact tail _ _ _ _ _ _ _ _ _ _ _ _ _ _ _ _ _ _ _ _ _ hn ek es pk ps pnw b12 npp n1p n2p npnh nbpn g1 g2 g3 (.inl g4) hh12 fun S' _ _ _ _ => fin S' _ _ _ _ _ _ _ _ _ _ _ _ _
  · rintro G' S5 _
    exact ⟨trivial, by simp only [dSeq, dIfS, dTb, d2, d1, dVar, dC, dRet, dSet, dPut, dNext, dCB, dCons, dNil, dTup, dLst, dCall, dAnd, dOr, dNot, dAndV, dOrV, dNotV, dChain, dDrop, dIf, dgName, dgNil, dgCons, dgTup, dAsg, dPar, startD, wipeD, List.map_cons, List.map_nil, List.length_cons, List.length_nil, List.replicate, List.cons_append, List.nil_append, List.append_nil, List.getElem?_cons_zero, List.getElem?_cons_succ, Option.some.injEq, exists_eq_left', exists_eq_left, List.set_cons_zero, List.set_cons_succ, rEq_ii, rEq_ss, rNe_ss, rI1_ii, rI2_ii, DL.ix_lst, DL.ix_tup, atI_0, atI_1, atI_2, atI_3, atI_4, atI_5, some_ex, bl_ex, int_ex, len_lst, len_tup, mul_ii, add_ii, add_ll, add_tt, add_ss, decide_eq_true_eq, D.tup.injEq, D.lst.injEq, D.dct.injEq, D.str.injEq, D.int.injEq, D.bl.injEq, D.ref.injEq, Nat.zero_add, Nat.add_zero, Nat.sub_self, Nat.add_one_sub_one, Nat.reduceAdd, Nat.reduceSub, cons_ex, pair_ex, sz_0, sz_1, sz_2, sz_3, sz_4, sz_5, sz_6, sz_7, sz_8, true_and, eq_self]; exact q S5⟩
end K83
namespace K83
open PySem PySem.Spec PyProof.Rows L2 DL
def drows_of : He.DefD := ⟨("rows_of", none), "rows_of", "rows_of", defArgs srows_of, defBody srows_of, defScope srows_of, [], []⟩
def dkept_number : He.DefD := ⟨("kept_number", none), "kept_number", "kept_number", defArgs skept_number, defBody skept_number, defScope skept_number, [], []⟩
def dkeys_over : He.DefD := ⟨("keys_over", none), "keys_over", "keys_over", defArgs skeys_over, defBody skeys_over, defScope skeys_over, [], []⟩
def dshelves_over : He.DefD := ⟨("shelves_over", none), "shelves_over", "shelves_over", defArgs sshelves_over, defBody sshelves_over, defScope sshelves_over, [], []⟩
def dgone_over : He.DefD := ⟨("gone_over", none), "gone_over", "gone_over", defArgs sgone_over, defBody sgone_over, defScope sgone_over, [], []⟩
def d_law_bag : He.DefD := ⟨("_law_bag", none), "_law_bag", "_law_bag", defArgs s_law_bag, defBody s_law_bag, defScope s_law_bag, [], []⟩
def d_law_take : He.DefD := ⟨("_law_take", none), "_law_take", "_law_take", defArgs s_law_take, defBody s_law_take, defScope s_law_take, [], []⟩
def d_law_copy : He.DefD := ⟨("_law_copy", none), "_law_copy", "_law_copy", defArgs s_law_copy, defBody s_law_copy, defScope s_law_copy, [], []⟩
def d_law_row : He.DefD := ⟨("_law_row", none), "_law_row", "_law_row", defArgs s_law_row, defBody s_law_row, defScope s_law_row, [], []⟩
def d_law_names : He.DefD := ⟨("_law_names", none), "_law_names", "_law_names", defArgs s_law_names, defBody s_law_names, defScope s_law_names, [], []⟩
def d_law_makes : He.DefD := ⟨("_law_makes", none), "_law_makes", "_law_makes", defArgs s_law_makes, defBody s_law_makes, defScope s_law_makes, [], []⟩
def d_law_numbers : He.DefD := ⟨("_law_numbers", none), "_law_numbers", "_law_numbers", defArgs s_law_numbers, defBody s_law_numbers, defScope s_law_numbers, [], []⟩
def d_law_due : He.DefD := ⟨("_law_due", none), "_law_due", "_law_due", defArgs s_law_due, defBody s_law_due, defScope s_law_due, [], []⟩
def dlaw : He.DefD := ⟨("law", none), "law", "law", defArgs slaw, defBody slaw, defScope slaw, [], []⟩
def fn : List He.DefD := [drows_of, dkept_number, dkeys_over, dshelves_over, dgone_over, d_law_bag, d_law_take, d_law_copy, d_law_row, d_law_names, d_law_makes, d_law_numbers, d_law_due, dlaw]
def fa : List He.Fa := [.glo "rows_of", .glo "kept_number", .glo "keys_over", .glo "shelves_over", .glo "gone_over", .glo "_law_bag", .glo "_law_take", .glo "_law_copy", .glo "_law_row", .glo "_law_names", .glo "_law_makes", .glo "_law_numbers", .glo "_law_due", .glo "law", .free "len", .free "abs", .free "sorted", .free "range", .free "isinstance", .free "int", .free "list", .free "tuple", .free "dict"]
abbrev RR : PySem.W.OpenRow := PySem.W.OpenLaw.row PySem.Challenge.rw_plughall_k83_gone_over
abbrev hk : PySem.W.Hook := hookL 4 fa fn
def ob (s : PySem.W.SharedT) : He.AlD := obsLG 4 fa fn (HandSHeadRun.getT s)
theorem ob_eq (s : PySem.W.SharedT) : ob s = hk.obs s.abs := obsLG_eq (HandSHeadRun.getT_eq s)
theorem run (w : World) : HandSHeadRun.RunEq RR (PySem.W.view RR.prog [16]) hk ob 3000 ["__name__", "rows_of", "kept_number", "keys_over", "shelves_over", "gone_over", "_law_bag", "_law_take", "_law_alike", "_law_copy", "_law_row", "_law_names", "_law_makes", "_law_numbers", "_law_due"] w := by
  intro os
  kernel_rfl
section
variable {P : Program} {w : World} {K : PySem.W.Frag} {mg : Str → Option Value} {base : Heap} {f : Addr} {fd : FuncData}
theorem ckrows_of (bi : BI mg) (F : FnP K "rows_of" srows_of f fd) (hm : mg "rows_of" = some (.ref f))  : Callee P w K mg base 1 "rows_of" Prows_of sprows_of :=
  callee_of (N := Nrows_of) F hm (F.bindsN fun _ _ _ _ _ _ us hl => match us, hl with | [_, _], _ => rfl) scrows_of (fun _ _ _ _ h => by obtain ⟨_, _, rfl, _⟩ := h; rfl) fun cdv A outer s H E B hr => ⟨trows_of, dvrows_of bi  hr, fun ds R RX h => rd_rows_of h⟩
theorem ckkept_number (bi : BI mg) (F : FnP K "kept_number" skept_number f fd) (hm : mg "kept_number" = some (.ref f)) (crows_of : Callee P w K mg base 1 "rows_of" Prows_of sprows_of) : Callee P w K mg base 2 "kept_number" Pkept_number spkept_number :=
  callee_of (N := Nkept_number) F hm (F.bindsN fun _ _ _ _ _ _ us hl => match us, hl with | [_, _, _, _], _ => rfl) sckept_number (fun _ _ _ _ h => by obtain ⟨_, _, _, _, _, _, _, _, rfl, _⟩ := h; rfl) fun cdv A outer s H E B hr => ⟨tkept_number, dvkept_number bi crows_of hr, fun ds R RX h => rd_kept_number h⟩
theorem ckkeys_over (bi : BI mg) (F : FnP K "keys_over" skeys_over f fd) (hm : mg "keys_over" = some (.ref f)) (ckept_number : Callee P w K mg base 2 "kept_number" Pkept_number spkept_number) (crows_of : Callee P w K mg base 1 "rows_of" Prows_of sprows_of) : Callee P w K mg base 3 "keys_over" Pkeys_over spkeys_over :=
  callee_of (N := Nkeys_over) F hm (F.bindsN fun _ _ _ _ _ _ us hl => match us, hl with | [_, _, _], _ => rfl) sckeys_over (fun _ _ _ _ h => by obtain ⟨_, _, _, rfl, _⟩ := h; rfl) fun cdv A outer s H E B hr => ⟨tkeys_over, dvkeys_over bi ckept_number crows_of hr, fun ds R RX h => rd_keys_over h⟩
theorem ckshelves_over (bi : BI mg) (F : FnP K "shelves_over" sshelves_over f fd) (hm : mg "shelves_over" = some (.ref f)) (crows_of : Callee P w K mg base 1 "rows_of" Prows_of sprows_of) : Callee P w K mg base 2 "shelves_over" Pshelves_over spshelves_over :=
  callee_of (N := Nshelves_over) F hm (F.bindsN fun _ _ _ _ _ _ us hl => match us, hl with | [_, _, _], _ => rfl) scshelves_over (fun _ _ _ _ h => by obtain ⟨_, _, _, rfl, _⟩ := h; rfl) fun cdv A outer s H E B hr => ⟨tshelves_over, dvshelves_over bi crows_of hr, fun ds R RX h => rd_shelves_over h⟩
theorem ckgone_over (bi : BI mg) (F : FnP K "gone_over" sgone_over f fd) (hm : mg "gone_over" = some (.ref f)) (ckeys_over : Callee P w K mg base 3 "keys_over" Pkeys_over spkeys_over) (cshelves_over : Callee P w K mg base 2 "shelves_over" Pshelves_over spshelves_over) : Callee P w K mg base 4 "gone_over" Pgone_over spgone_over :=
  callee_of (N := Ngone_over) F hm (F.bindsN fun _ _ _ _ _ _ us hl => match us, hl with | [_, _, _, _], _ => rfl) scgone_over (fun _ _ _ _ h => by obtain ⟨_, _, _, _, rfl, _⟩ := h; rfl) fun cdv A outer s H E B hr => ⟨tgone_over, dvgone_over bi ckeys_over cshelves_over hr, fun ds R RX h => rd_gone_over h⟩
theorem ck_law_bag (bi : BI mg) (F : FnP K "_law_bag" s_law_bag f fd) (hm : mg "_law_bag" = some (.ref f))  : Callee P w K mg base 1 "_law_bag" P_law_bag sp_law_bag :=
  callee_of (N := N_law_bag) F hm (F.bindsN fun _ _ _ _ _ _ us hl => match us, hl with | [_], _ => rfl) sc_law_bag (fun _ _ _ _ h => by obtain ⟨_, rfl, _⟩ := h; rfl) fun cdv A outer s H E B hr => ⟨t_law_bag, dv_law_bag bi  hr, fun ds R RX h => rd_law_bag h⟩
theorem ck_law_take (bi : BI mg) (F : FnP K "_law_take" s_law_take f fd) (hm : mg "_law_take" = some (.ref f))  : Callee P w K mg base 1 "_law_take" P_law_take sp_law_take :=
  callee_of (N := N_law_take) F hm (F.bindsN fun _ _ _ _ _ _ us hl => match us, hl with | [_, _], _ => rfl) sc_law_take (fun _ _ _ _ h => by obtain ⟨_, _, rfl, _⟩ := h; rfl) fun cdv A outer s H E B hr => ⟨t_law_take, dv_law_take bi  hr, fun ds R RX h => rd_law_take h⟩
theorem ck_law_copy0 (F : FnP K "_law_copy" s_law_copy f fd) (hm : mg "_law_copy" = some (.ref f)) : Callee P w K mg base 3 "_law_copy" P_law_copy spNo :=
  callee_no F hm (F.bindsN fun _ _ _ _ _ _ us hl => match us, hl with | [_], _ => rfl) sc_law_copy
theorem ck_law_copy (bi : BI mg) (F : FnP K "_law_copy" s_law_copy f fd) (hm : mg "_law_copy" = some (.ref f))  : ∀ n, Callee P w K mg base (4 + n) "_law_copy" P_law_copy (sp_law_copy n)
  | 0 => callee_of (N := N_law_copy) F hm (F.bindsN fun _ _ _ _ _ _ us hl => match us, hl with | [_], _ => rfl) sc_law_copy (fun _ _ _ _ h => by obtain ⟨_, _, rfl, _⟩ := h; rfl) fun cdv A outer s H E B hr => ⟨t_law_copy spNo, dv_law_copy bi  (ck_law_copy0 F hm) hr, fun ds R RX h => rd_law_copy (fun m e => by cases e) h⟩
  | n + 1 => callee_of (N := N_law_copy) F hm (F.bindsN fun _ _ _ _ _ _ us hl => match us, hl with | [_], _ => rfl) sc_law_copy (fun _ _ _ _ h => by obtain ⟨_, _, rfl, _⟩ := h; rfl) fun cdv A outer s H E B hr => ⟨t_law_copy (sp_law_copy n), dv_law_copy bi  (ck_law_copy bi F hm  n) hr, fun ds R RX h => rd_law_copy (fun m e => by cases e; rfl) h⟩
theorem ck_law_row (bi : BI mg) (F : FnP K "_law_row" s_law_row f fd) (hm : mg "_law_row" = some (.ref f)) (c_law_take : Callee P w K mg base 1 "_law_take" P_law_take sp_law_take) : Callee P w K mg base 2 "_law_row" P_law_row sp_law_row :=
  callee_of (N := N_law_row) F hm (F.bindsN fun _ _ _ _ _ _ us hl => match us, hl with | [_, _, _], _ => rfl) sc_law_row (fun _ _ _ _ h => by obtain ⟨_, _, _, rfl, _⟩ := h; rfl) fun cdv A outer s H E B hr => ⟨t_law_row, dv_law_row bi c_law_take hr, fun ds R RX h => rd_law_row h⟩
theorem ck_law_names (bi : BI mg) (F : FnP K "_law_names" s_law_names f fd) (hm : mg "_law_names" = some (.ref f)) (c_law_take : Callee P w K mg base 1 "_law_take" P_law_take sp_law_take) : Callee P w K mg base 2 "_law_names" P_law_names sp_law_names :=
  callee_of (N := N_law_names) F hm (F.bindsN fun _ _ _ _ _ _ us hl => match us, hl with | [_, _], _ => rfl) sc_law_names (fun _ _ _ _ h => by obtain ⟨_, rfl, _⟩ := h; rfl) fun cdv A outer s H E B hr => ⟨t_law_names, dv_law_names bi c_law_take hr, fun ds R RX h => rd_law_names h⟩
theorem ck_law_makes (bi : BI mg) (F : FnP K "_law_makes" s_law_makes f fd) (hm : mg "_law_makes" = some (.ref f)) (c_law_row : Callee P w K mg base 2 "_law_row" P_law_row sp_law_row) (c_law_take : Callee P w K mg base 1 "_law_take" P_law_take sp_law_take) : Callee P w K mg base 3 "_law_makes" P_law_makes sp_law_makes :=
  callee_of (N := N_law_makes) F hm (F.bindsN fun _ _ _ _ _ _ us hl => match us, hl with | [_, _, _], _ => rfl) sc_law_makes (fun _ _ _ _ h => by obtain ⟨_, _, _, rfl, _⟩ := h; rfl) fun cdv A outer s H E B hr => ⟨t_law_makes, dv_law_makes bi c_law_row c_law_take hr, fun ds R RX h => rd_law_makes h⟩
theorem ck_law_numbers (bi : BI mg) (F : FnP K "_law_numbers" s_law_numbers f fd) (hm : mg "_law_numbers" = some (.ref f)) (c_law_take : Callee P w K mg base 1 "_law_take" P_law_take sp_law_take) : Callee P w K mg base 2 "_law_numbers" P_law_numbers sp_law_numbers :=
  callee_of (N := N_law_numbers) F hm (F.bindsN fun _ _ _ _ _ _ us hl => match us, hl with | [_, _], _ => rfl) sc_law_numbers (fun _ _ _ _ h => by obtain ⟨_, _, _, rfl, _⟩ := h; rfl) fun cdv A outer s H E B hr => ⟨t_law_numbers, dv_law_numbers bi c_law_take hr, fun ds R RX h => rd_law_numbers h⟩
theorem ck_law_due (bi : BI mg) (F : FnP K "_law_due" s_law_due f fd) (hm : mg "_law_due" = some (.ref f))  : Callee P w K mg base 1 "_law_due" P_law_due sp_law_due :=
  callee_of (N := N_law_due) F hm (F.bindsN fun _ _ _ _ _ _ us hl => match us, hl with | [_, _, _, _], _ => rfl) sc_law_due (fun _ _ _ _ h => by obtain ⟨_, _, _, _, _, _, _, _, rfl, _⟩ := h; rfl) fun cdv A outer s H E B hr => ⟨t_law_due, dv_law_due bi  hr, fun ds R RX h => rd_law_due h⟩
theorem cklaw (bi : BI mg) (F : FnP K "law" slaw f fd) (hm : mg "law" = some (.ref f)) (c_law_bag : Callee P w K mg base 1 "_law_bag" P_law_bag sp_law_bag) (c_law_copy : Callee P w K mg base 12 "_law_copy" P_law_copy (sp_law_copy 8)) (c_law_due : Callee P w K mg base 1 "_law_due" P_law_due sp_law_due) (c_law_makes : Callee P w K mg base 3 "_law_makes" P_law_makes sp_law_makes) (c_law_names : Callee P w K mg base 2 "_law_names" P_law_names sp_law_names) (c_law_numbers : Callee P w K mg base 2 "_law_numbers" P_law_numbers sp_law_numbers) (c_law_take : Callee P w K mg base 1 "_law_take" P_law_take sp_law_take) (cgone_over : Callee P w K mg base 4 "gone_over" Pgone_over spgone_over) : Callee P w K mg base 20 "law" Plaw splaw :=
  callee_of (N := Nlaw) F hm (F.bindsN fun _ _ _ _ _ _ us hl => match us, hl with | [_], _ => rfl) sclaw (fun _ _ _ _ h => by obtain ⟨_, rfl, _⟩ := h; rfl) fun cdv A outer s H E B hr => ⟨tlaw, dvlaw bi c_law_bag c_law_copy c_law_due c_law_makes c_law_names c_law_numbers c_law_take cgone_over hr, fun ds R RX h => rd_law h⟩
end
theorem facts {P : Program} {w : World} {K : PySem.W.Frag} {h : Heap} {mg : Str → Option Value} {f : Addr} (X : K.In h) (G : h.Ns mainGlobals mg) (hfa : mg ("law" : Str) = some (.ref f)) (c : He.SaysD fa fn K) :
    ∃ fd : FuncData, (∀ (s : Shared) (v : Value), BindsTo s fd ⟨[v], []⟩ [("_law_script", v)]) ∧ ∀ base : Heap, K.In base → base.Ns mainGlobals mg → FnOk P w K mg base CX0 20 f fd ["_law_script"] (liftSp K splaw) := by
  obtain ⟨fd0, F0⟩ := c.def_ 0 (d := drows_of) rfl
  have g0 := He.glo_ok X G (c.fact 0 (f := .glo "rows_of") rfl)
  obtain ⟨fd1, F1⟩ := c.def_ 1 (d := dkept_number) rfl
  have g1 := He.glo_ok X G (c.fact 1 (f := .glo "kept_number") rfl)
  obtain ⟨fd2, F2⟩ := c.def_ 2 (d := dkeys_over) rfl
  have g2 := He.glo_ok X G (c.fact 2 (f := .glo "keys_over") rfl)
  obtain ⟨fd3, F3⟩ := c.def_ 3 (d := dshelves_over) rfl
  have g3 := He.glo_ok X G (c.fact 3 (f := .glo "shelves_over") rfl)
  obtain ⟨fd4, F4⟩ := c.def_ 4 (d := dgone_over) rfl
  have g4 := He.glo_ok X G (c.fact 4 (f := .glo "gone_over") rfl)
  obtain ⟨fd5, F5⟩ := c.def_ 5 (d := d_law_bag) rfl
  have g5 := He.glo_ok X G (c.fact 5 (f := .glo "_law_bag") rfl)
  obtain ⟨fd6, F6⟩ := c.def_ 6 (d := d_law_take) rfl
  have g6 := He.glo_ok X G (c.fact 6 (f := .glo "_law_take") rfl)
  obtain ⟨fd7, F7⟩ := c.def_ 7 (d := d_law_copy) rfl
  have g7 := He.glo_ok X G (c.fact 7 (f := .glo "_law_copy") rfl)
  obtain ⟨fd8, F8⟩ := c.def_ 8 (d := d_law_row) rfl
  have g8 := He.glo_ok X G (c.fact 8 (f := .glo "_law_row") rfl)
  obtain ⟨fd9, F9⟩ := c.def_ 9 (d := d_law_names) rfl
  have g9 := He.glo_ok X G (c.fact 9 (f := .glo "_law_names") rfl)
  obtain ⟨fd10, F10⟩ := c.def_ 10 (d := d_law_makes) rfl
  have g10 := He.glo_ok X G (c.fact 10 (f := .glo "_law_makes") rfl)
  obtain ⟨fd11, F11⟩ := c.def_ 11 (d := d_law_numbers) rfl
  have g11 := He.glo_ok X G (c.fact 11 (f := .glo "_law_numbers") rfl)
  obtain ⟨fd12, F12⟩ := c.def_ 12 (d := d_law_due) rfl
  have g12 := He.glo_ok X G (c.fact 12 (f := .glo "_law_due") rfl)
  obtain ⟨fd13, F13⟩ := c.def_ 13 (d := dlaw) rfl
  have g13 := He.glo_ok X G (c.fact 13 (f := .glo "law") rfl)
  have bi : BI mg := ⟨He.free_ok X G (c.fact 14 (f := .free "len") rfl), He.free_ok X G (c.fact 15 (f := .free "abs") rfl), He.free_ok X G (c.fact 16 (f := .free "sorted") rfl), He.free_ok X G (c.fact 17 (f := .free "range") rfl), He.free_ok X G (c.fact 18 (f := .free "isinstance") rfl), He.free_ok X G (c.fact 19 (f := .free "int") rfl), He.free_ok X G (c.fact 20 (f := .free "list") rfl), He.free_ok X G (c.fact 21 (f := .free "tuple") rfl), He.free_ok X G (c.fact 22 (f := .free "dict") rfl)⟩
  have e := hfa.symm.trans g13
  cases e
  have b := FunD.bindsA (ps := Plaw) F13 fun _ _ _ _ _ _ us hl => match us, hl with | [_], _ => rfl
  refine ⟨fd13, fun s v => b s [v] rfl, fun base _ _ => ?_⟩
  have k0 : Callee P w K mg base 1 "rows_of" Prows_of sprows_of := ckrows_of bi F0 g0
  have k1 : Callee P w K mg base 2 "kept_number" Pkept_number spkept_number := ckkept_number bi F1 g1 k0
  have k2 : Callee P w K mg base 3 "keys_over" Pkeys_over spkeys_over := ckkeys_over bi F2 g2 k1 k0
  have k3 : Callee P w K mg base 2 "shelves_over" Pshelves_over spshelves_over := ckshelves_over bi F3 g3 k0
  have k4 : Callee P w K mg base 4 "gone_over" Pgone_over spgone_over := ckgone_over bi F4 g4 k2 k3
  have k5 : Callee P w K mg base 1 "_law_bag" P_law_bag sp_law_bag := ck_law_bag bi F5 g5
  have k6 : Callee P w K mg base 1 "_law_take" P_law_take sp_law_take := ck_law_take bi F6 g6
  have k7 : Callee P w K mg base 12 "_law_copy" P_law_copy (sp_law_copy 8) := ck_law_copy bi F7 g7  8
  have k8 : Callee P w K mg base 2 "_law_row" P_law_row sp_law_row := ck_law_row bi F8 g8 k6
  have k9 : Callee P w K mg base 2 "_law_names" P_law_names sp_law_names := ck_law_names bi F9 g9 k6
  have k10 : Callee P w K mg base 3 "_law_makes" P_law_makes sp_law_makes := ck_law_makes bi F10 g10 k8 k6
  have k11 : Callee P w K mg base 2 "_law_numbers" P_law_numbers sp_law_numbers := ck_law_numbers bi F11 g11 k6
  have k12 : Callee P w K mg base 1 "_law_due" P_law_due sp_law_due := ck_law_due bi F12 g12
  exact okDD F13 sclaw (fun _ _ _ _ h => by obtain ⟨_, rfl, _⟩ := h; rfl) fun cdv A outer s H E B hr => ⟨tlaw, dvlaw bi k5 k7 k12 k10 k9 k11 k6 k4 hr, fun ds R RX h => rd_law h⟩
end K83
open PySem PySem.W PySem.Calls PyProof.Rows
theorem PySem.Challenge.cw_plughall_k83_gone_over_holds : PySem.Challenge.rw_plughall_k83_gone_over.Holds := by
  w_on; o_law
  refine HandSHeadRun.head_any (r := OpenLaw.row PySem.Challenge.rw_plughall_k83_gone_over) (q := view (OpenLaw.row PySem.Challenge.rw_plughall_k83_gone_over).prog [16]) (H := K83.hk) (ob := K83.ob) (M := 3000) (loose := ["__name__", "rows_of", "kept_number", "keys_over", "shelves_over", "gone_over", "_law_bag", "_law_take", "_law_alike", "_law_copy", "_law_row", "_law_names", "_law_makes", "_law_numbers", "_law_due"]) (d := HandSHeadRun.topDef (OpenLaw.row PySem.Challenge.rw_plughall_k83_gone_over).prog 16) (kwd := []) K83.ob_eq
    (by kernel_rfl) (fun s => by kernel_rfl) K83.run (by kernel_rfl) (by kernel_rfl) (by kernel_rfl) (by rfl) (by first | assumption | decide +kernel) (by decide +kernel) ⟨rfl, rfl, rfl, rfl, rfl, by decide +kernel⟩ ?hw ?hc
  case hw => w_witness2
  case hc =>
    refine L2.walk_ofE (l := PySem.Challenge.rw_plughall_k83_gone_over) (n := 63) (k := 20) (x := "_law_script") (CX := L2.CX0) rfl (by decide) (by kernel_rfl) ⟨rfl, by decide, by decide⟩ ?F (fun _ _ _ _ z => z)
    intro w mg fa h Y G hmg0
    obtain ⟨K, KX, c, nl⟩ := Y
    have hmg : mg ("law" : PySem.Str) = some (.ref fa) := by
      have e : (HandSHeadRun.topDef (OpenLaw.row PySem.Challenge.rw_plughall_k83_gone_over).prog 16).name = ("law" : PySem.Str) := by kernel_rfl
      rw [← e]
      exact hmg0
    obtain ⟨fd, hb, hF⟩ := K83.facts (P := (PySem.Challenge.rw_plughall_k83_gone_over).prog) (w := w) KX G hmg c
    exact ⟨K, fd, DL.liftSp K K83.splaw, KX, hb, fun H a ns hl _ hS => DL.law_lift (fun ns S R RX h1 h2 => ⟨ns, rfl, h1, h2⟩) nl (Nat.le_trans hl (by decide)) hS, hF⟩
