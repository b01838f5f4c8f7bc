import PyProof.Rows.All
import Wide.All
import OpenK.AllK
import Wide.FinOn
import HandS.ForMost
import HandS.IsInst
import HandS.SortRule
import HandS.SortInts
import HandS.Star
import HandS.TupAny
import HandS.TupMul
import HandS.Style
import HandS.DictComp
import HandS.ListItems
import HandS.Zip
import HandS.Wide
import PyProof.TupleOfSeq
import KE.KItemsList
import KE.KDictSum
import KE.KDictPairs
import HandS.Conv
import HandS.More
import HandS.RaiseMore
import KE.KDictZip
import PySem.Challenge.RW_howeveritpasses_k66_whole_counters_by_ro
set_option Elab.async false
set_option linter.all false
set_option maxRecDepth 100000
set_option maxHeartbeats 4000000
/-! Pv1: pure values over the hand layer: data, a store of lists and dicts by number, judgements by functions. -/
namespace Pv
open PySem PySem.Spec PyProof.Rows L2

abbrev D := PyData
/-- a value: data; the object of that number in the store; a tuple with such in it; a list that is only read (the script) -/
inductive T where
  | p (d : D) | loc (n : Nat) | mix (ts : List T) | ro (xs : List D) | ft (xs : List D)
/-- an object of the store -/
inductive O where
  | lst (xs : List D) | dic (kvs : List (Key × D)) | lck (kvs : List (Key × D))
abbrev Env := List (Option T)
abbrev Sto := List O
abbrev EF := Env → Sto → Option (T × Sto)
abbrev TF := Env → Sto → Option (Bool × Sto)
abbrev AF := Env → Sto → Option (List T × Sto)
inductive Out where
  | nx | bk | ct | rt (t : T)
abbrev SF := Nat → Env → Sto → Option (Out × Env × Sto)

/-! ### what stands in the abstract heap -/
structure KeepT (H H' : Hp) : Prop where
  tup : ∀ b xs, Rd H b (.tup xs) → Rd H' b (.tup xs)
  fro : ∀ b o xs, H b = some (.frz o (.lst xs)) → H' b = some (.frz o (.lst xs))
  frt : ∀ b o xs, H b = some (.frz o (.tup xs)) → H' b = some (.frz o (.tup xs))
structure Keep (H H' : Hp) : Prop extends KeepT H H' where
  frd : ∀ b o xs, H b = some (.frz o (.dK xs)) → H' b = some (.frz o (.dK xs))
theorem KeepT.trans {H H1 H2 : Hp} (a : KeepT H H1) (b : KeepT H1 H2) : KeepT H H2 := ⟨fun c xs h => b.tup c xs (a.tup c xs h), fun c o xs h => b.fro c o xs (a.fro c o xs h), fun c o xs h => b.frt c o xs (a.frt c o xs h)⟩
theorem Keep.refl (H : Hp) : Keep H H := ⟨⟨fun _ _ h => h, fun _ _ _ h => h, fun _ _ _ h => h⟩, fun _ _ _ h => h⟩
theorem Keep.trans {H H1 H2 : Hp} (a : Keep H H1) (b : Keep H1 H2) : Keep H H2 := ⟨a.toKeepT.trans b.toKeepT, fun c o xs h => b.frd c o xs (a.frd c o xs h)⟩
theorem Keep.new {H : Hp} {p : Addr} {o : HO} (n : H p = none) : Keep H (upd H p o) := by
  refine ⟨⟨fun b xs h => ?_, fun b o' xs h => ?_, fun b o' xs h => ?_⟩, fun b o' xs h => ?_⟩
  · rcases h with h | ⟨o', h⟩
    · exact .inl (by rw [upd_ne (ne_of_none h n)]; exact h)
    · exact .inr ⟨o', by rw [upd_ne (ne_of_none h n)]; exact h⟩
  · rw [upd_ne (ne_of_none h n)]; exact h
  · rw [upd_ne (ne_of_none h n)]; exact h
  · rw [upd_ne (ne_of_none h n)]; exact h
/-- what may be changed: no tuple, no read-only list -/
def FreeT (o : HO) : Prop := (∀ xs, o ≠ .tup xs) ∧ (∀ ob xs, o ≠ .frz ob (.tup xs)) ∧ (∀ ob xs, o ≠ .frz ob (.lst xs))
/-- .. and no locked dict -/
def Free (o : HO) : Prop := FreeT o ∧ ∀ ob xs, o ≠ .frz ob (.dK xs)
theorem KeepT.put {H : Hp} {a : Addr} {o o' : HO} (h : H a = some o) (f : FreeT o) : KeepT H (upd H a o') := by
  refine ⟨fun b xs q => ?_, fun b ob xs q => ?_, fun b ob xs q => ?_⟩
  · rcases q with q | ⟨ob, q⟩
    · have n : b ≠ a := fun e => by subst e; rw [h] at q; exact f.1 _ (Option.some.inj q)
      exact .inl (by rw [upd_ne n]; exact q)
    · have n : b ≠ a := fun e => by subst e; rw [h] at q; exact f.2.1 _ _ (Option.some.inj q)
      exact .inr ⟨ob, by rw [upd_ne n]; exact q⟩
  · have n : b ≠ a := fun e => by subst e; rw [h] at q; exact f.2.2 _ _ (Option.some.inj q)
    rw [upd_ne n]; exact q
  · have n : b ≠ a := fun e => by subst e; rw [h] at q; exact f.2.1 _ _ (Option.some.inj q)
    rw [upd_ne n]; exact q
theorem Keep.put {H : Hp} {a : Addr} {o o' : HO} (h : H a = some o) (f : Free o) : Keep H (upd H a o') := by
  refine ⟨KeepT.put h f.1, fun b ob xs q => ?_⟩
  have n : b ≠ a := fun e => by subst e; rw [h] at q; exact f.2 _ _ (Option.some.inj q)
  rw [upd_ne n]; exact q
theorem free_lst {xs : List V} : Free (.lst xs) := ⟨⟨fun _ e => (by cases e), fun _ _ e => (by cases e), fun _ _ e => (by cases e)⟩, fun _ _ e => (by cases e)⟩
theorem free_dK {xs : List (Key × V)} : Free (.dK xs) := ⟨⟨fun _ e => (by cases e), fun _ _ e => (by cases e), fun _ _ e => (by cases e)⟩, fun _ _ e => (by cases e)⟩
theorem free_lck {o : Obj} {xs : List (Key × V)} : FreeT (.frz o (.dK xs)) := ⟨fun _ e => (by cases e), fun _ _ e => (by cases e), fun _ _ e => (by cases e)⟩
section
variable {K : PySem.W.Frag} {H H' : Hp} {A A' : List Addr}
theorem KeepT.sqt (k : KeepT H H') {a : Addr} {xs : List V} (h : SqT K H a xs) : SqT K H' a xs := by
  rcases h with h | h
  · exact .inl (k.tup _ _ h)
  · exact .inr h
/-- a list that is only read -/
def RoL (K : PySem.W.Frag) (H : Hp) (a : Addr) (xs : List V) : Prop :=
  (∃ o, H a = some (.frz o (.lst xs))) ∨
    ∃ (o : Obj) (its : Array Value) (n : Nat), K.lookup a = some o ∧ o.cls = .type "list" ∧ o.dict = none ∧ o.data = .seq its n ∧ its.size ≤ sizeLine ∧ Vals xs its.toList
theorem RoL.sql {a : Addr} {xs : List V} (h : RoL K H a xs) : SqL K H a xs := by
  rcases h with ⟨o, h⟩ | h
  · exact .inl (.inr ⟨o, h⟩)
  · exact .inr h
theorem KeepT.rol (k : KeepT H H') {a : Addr} {xs : List V} (h : RoL K H a xs) : RoL K H' a xs := by
  rcases h with ⟨o, h⟩ | h
  · exact .inl ⟨o, k.fro _ _ _ h⟩
  · exact .inr h

/-! ### values stand for data -/
mutual
inductive Rp (K : PySem.W.Frag) (H : Hp) : V → D → Prop
  | non : Rp K H .non .none
  | bl (b : Bool) : Rp K H (.bl b) (.bool b)
  | int (i : Int) : Rp K H (.int i) (.int i)
  | str (x : Str) : Rp K H (.str x) (.str x)
  | tup {a : Addr} {vs : List V} {ds : List D} : SqT K H a vs → Rps K H vs ds → Rp K H (.ref a) (.tuple ds)
inductive Rps (K : PySem.W.Frag) (H : Hp) : List V → List D → Prop
  | nil : Rps K H [] []
  | cons {v : V} {vs : List V} {d : D} {ds : List D} : Rp K H v d → Rps K H vs ds → Rps K H (v :: vs) (d :: ds)
end
mutual
inductive Rt (K : PySem.W.Frag) (H : Hp) (A : List Addr) : V → T → Prop
  | p {v : V} {d : D} : Rp K H v d → Rt K H A v (.p d)
  | loc {n : Nat} {a : Addr} : A[n]? = some a → Rt K H A (.ref a) (.loc n)
  | mix {a : Addr} {vs : List V} {ts : List T} : SqT K H a vs → Rts K H A vs ts → Rt K H A (.ref a) (.mix ts)
  | ro {a : Addr} {vs : List V} {ds : List D} : RoL K H a vs → Rps K H vs ds → Rt K H A (.ref a) (.ro ds)
  | ft {a : Addr} {ob : Obj} {vs : List V} {ds : List D} : H a = some (.frz ob (.tup vs)) → ob.dict = none → Rps K H vs ds → Rt K H A (.ref a) (.ft ds)
inductive Rts (K : PySem.W.Frag) (H : Hp) (A : List Addr) : List V → List T → Prop
  | nil : Rts K H A [] []
  | cons {v : V} {vs : List V} {t : T} {ts : List T} : Rt K H A v t → Rts K H A vs ts → Rts K H A (v :: vs) (t :: ts)
end
mutual
theorem Rp.keepT (k : KeepT H H') : ∀ {v : V} {d : D}, Rp K H v d → Rp K H' v d
  | _, _, .non => .non
  | _, _, .bl b => .bl b
  | _, _, .int i => .int i
  | _, _, .str x => .str x
  | _, _, .tup s r => .tup (k.sqt s) (Rps.keepT k r)
theorem Rps.keepT (k : KeepT H H') : ∀ {v : List V} {d : List D}, Rps K H v d → Rps K H' v d
  | _, _, .nil => .nil
  | _, _, .cons a b => .cons (Rp.keepT k a) (Rps.keepT k b)
end
theorem Rp.keep (k : Keep H H') {v : V} {d : D} (h : Rp K H v d) : Rp K H' v d := h.keepT k.toKeepT
theorem Rps.keep (k : Keep H H') {v : List V} {d : List D} (h : Rps K H v d) : Rps K H' v d := h.keepT k.toKeepT
/-- the old numbers stand for the old addresses -/
def Pre (A A' : List Addr) : Prop := ∀ (i : Nat) (a : Addr), A[i]? = some a → A'[i]? = some a
theorem Pre.refl (A : List Addr) : Pre A A := fun _ _ h => h
theorem Pre.trans {A A1 A2 : List Addr} (a : Pre A A1) (b : Pre A1 A2) : Pre A A2 := fun i x h => b i x (a i x h)
theorem Pre.app (A B : List Addr) : Pre A (A ++ B) := fun i a h => by
  show (A ++ B)[i]? = some a
  rw [List.getElem?_append_left (List.getElem?_eq_some_iff.mp h).1]; exact h
theorem Pre.len {A A' : List Addr} (p : Pre A A') : A.length ≤ A'.length := by
  cases A with
  | nil => exact Nat.zero_le _
  | cons x xs =>
    have h : (x :: xs)[xs.length]? = some ((x :: xs)[xs.length]) := List.getElem?_eq_getElem (by simp)
    have := (List.getElem?_eq_some_iff.mp (p _ _ h)).1
    simp; omega
mutual
theorem Rt.keepT (k : KeepT H H') (p : Pre A A') : ∀ {v : V} {t : T}, Rt K H A v t → Rt K H' A' v t
  | _, _, .p r => .p (r.keepT k)
  | _, _, .loc e => .loc (p _ _ e)
  | _, _, .mix s r => .mix (k.sqt s) (Rts.keepT k p r)
  | _, _, .ro s r => .ro (k.rol s) (r.keepT k)
  | _, _, .ft s d r => .ft (k.frt _ _ _ s) d (r.keepT k)
theorem Rts.keepT (k : KeepT H H') (p : Pre A A') : ∀ {v : List V} {t : List T}, Rts K H A v t → Rts K H' A' v t
  | _, _, .nil => .nil
  | _, _, .cons a b => .cons (Rt.keepT k p a) (Rts.keepT k p b)
end
theorem Rt.keep (k : Keep H H') (p : Pre A A') {v : V} {t : T} (h : Rt K H A v t) : Rt K H' A' v t := h.keepT k.toKeepT p
theorem Rts.keep (k : Keep H H') (p : Pre A A') {v : List V} {t : List T} (h : Rts K H A v t) : Rts K H' A' v t := h.keepT k.toKeepT p
theorem Rps.length : ∀ {vs : List V} {ds : List D}, Rps K H vs ds → vs.length = ds.length
  | _, _, .nil => rfl
  | _, _, .cons _ r => by simp [Rps.length r]
theorem Rts.length : ∀ {vs : List V} {ds : List T}, Rts K H A vs ds → vs.length = ds.length
  | _, _, .nil => rfl
  | _, _, .cons _ r => by simp [Rts.length r]
theorem Rps.get : ∀ {vs : List V} {ds : List D} {i : Nat} {d : D}, Rps K H vs ds → ds[i]? = some d → ∃ v, vs[i]? = some v ∧ Rp K H v d
  | _, _, _, _, .nil, e => by simp at e
  | _, _, 0, _, .cons r _, e => by simp at e; subst e; exact ⟨_, rfl, r⟩
  | _, _, i + 1, d, .cons _ t, e => by
    obtain ⟨u, h1, h2⟩ := Rps.get (i := i) (d := d) t (by simpa using e)
    exact ⟨u, by simpa using h1, h2⟩
theorem Rps.getV {vs : List V} {ds : List D} {i : Nat} {v : V} (r : Rps K H vs ds) (e : vs[i]? = some v) : ∃ d, ds[i]? = some d ∧ Rp K H v d := by
  have h := (List.getElem?_eq_some_iff.mp e).1
  rw [r.length] at h
  obtain ⟨u, h1, h2⟩ := r.get (List.getElem?_eq_getElem h)
  rw [e] at h1; cases h1
  exact ⟨_, List.getElem?_eq_getElem h, h2⟩
theorem Rts.get : ∀ {vs : List V} {ds : List T} {i : Nat} {d : T}, Rts K H A vs ds → ds[i]? = some d → ∃ v, vs[i]? = some v ∧ Rt K H A v d
  | _, _, _, _, .nil, e => by simp at e
  | _, _, 0, _, .cons r _, e => by simp at e; subst e; exact ⟨_, rfl, r⟩
  | _, _, i + 1, d, .cons _ t, e => by
    obtain ⟨u, h1, h2⟩ := Rts.get (i := i) (d := d) t (by simpa using e)
    exact ⟨u, by simpa using h1, h2⟩
theorem Rps.app : ∀ {vs us : List V} {ds es : List D}, Rps K H vs ds → Rps K H us es → Rps K H (vs ++ us) (ds ++ es)
  | _, _, _, _, .nil, s => s
  | _, _, _, _, .cons r t, s => .cons r (Rps.app t s)
theorem Rps.set {v : V} {d : D} (q : Rp K H v d) : ∀ {vs : List V} {ds : List D} (i : Nat), Rps K H vs ds → Rps K H (vs.set i v) (ds.set i d)
  | _, _, _, .nil => .nil
  | _, _, 0, .cons _ t => .cons q t
  | _, _, i + 1, .cons r t => .cons r (Rps.set q i t)
theorem Rps.take : ∀ {vs : List V} {ds : List D} (n : Nat), Rps K H vs ds → Rps K H (vs.take n) (ds.take n)
  | _, _, 0, _ => .nil
  | _, _, _ + 1, .nil => .nil
  | _, _, n + 1, .cons r t => .cons r (Rps.take n t)
theorem Rps.drop : ∀ {vs : List V} {ds : List D} (n : Nat), Rps K H vs ds → Rps K H (vs.drop n) (ds.drop n)
  | _, _, 0, r => r
  | _, _, _ + 1, .nil => .nil
  | _, _, n + 1, .cons _ t => Rps.drop n t
theorem Rps.rev {vs : List V} {ds : List D} (r : Rps K H vs ds) : Rps K H vs.reverse ds.reverse := by
  induction r using Rps.rec (motive_1 := fun _ _ _ => True) with
  | nil => exact .nil
  | cons a b _ ih => rw [List.reverse_cons, List.reverse_cons]; exact ih.app (.cons a .nil)
  | non => trivial
  | bl => trivial
  | int => trivial
  | str => trivial
  | tup => trivial
theorem Rps.eraseIdx : ∀ {vs : List V} {ds : List D} (n : Nat), Rps K H vs ds → Rps K H (vs.eraseIdx n) (ds.eraseIdx n)
  | _, _, _, .nil => .nil
  | _, _, 0, .cons _ t => t
  | _, _, n + 1, .cons r t => .cons r (Rps.eraseIdx n t)
theorem Rps.ints : ∀ {ns : List Int}, Rps K H (ns.map V.int) (ns.map PyData.int)
  | [] => .nil
  | n :: ns => .cons (.int n) Rps.ints
theorem Rps.of_ints : ∀ {ns : List Int} {vs : List V}, Rps K H vs (ns.map PyData.int) → vs = ns.map V.int
  | [], _, h => by cases h; rfl
  | n :: ns, _, h => by
    cases h with
    | cons a b => cases a; rw [Rps.of_ints b]; rfl
theorem Rps.of_bools : ∀ {ns : List Bool} {vs : List V}, Rps K H vs (ns.map PyData.bool) → vs = ns.map V.bl
  | [], _, h => by cases h; rfl
  | n :: ns, _, h => by
    cases h with
    | cons a b => cases a; rw [Rps.of_bools b]; rfl
theorem Rps.of_strs : ∀ {ns : List Str} {vs : List V}, Rps K H vs (ns.map PyData.str) → vs = ns.map V.str
  | [], _, h => by cases h; rfl
  | n :: ns, _, h => by
    cases h with
    | cons a b => cases a; rw [Rps.of_strs b]; rfl
mutual
theorem Rp.dp : ∀ {v : V} {d : D}, Rp K H v d → Dp K H v d
  | _, _, .non => .non
  | _, _, .bl b => .bl b
  | _, _, .int i => .int i
  | _, _, .str x => .str x
  | _, _, .tup s r => .tup s (Rps.dps r)
theorem Rps.dps : ∀ {v : List V} {d : List D}, Rps K H v d → DpAll K H v d
  | _, _, .nil => .nil
  | _, _, .cons a b => .cons (Rp.dp a) (Rps.dps b)
end

/-! what is data all through -/
mutual
def dat : T → Option D
  | .p d => some d
  | .ft xs => some (.tuple xs)
  | .mix ts => (dats ts).map PyData.tuple
  | .loc _ => none
  | .ro _ => none
def dats : List T → Option (List D)
  | [] => some []
  | t :: ts => (dat t).bind fun d => (dats ts).map fun ds => d :: ds
end
mutual
theorem Rt.dat : ∀ {v : V} {t : T} {d : D}, Rt K H A v t → Pv.dat t = some d → Rp K H v d
  | _, _, _, .p r, h => by simp only [Pv.dat] at h; cases h; exact r
  | _, _, _, .ft s _ r, h => by simp only [Pv.dat] at h; cases h; exact .tup (.inl (.inr ⟨_, s⟩)) r
  | _, _, _, .mix s r, h => by
    simp only [Pv.dat] at h
    obtain ⟨ds, e, h⟩ := Option.map_eq_some_iff.mp h
    subst h
    exact .tup s (Rts.dats r e)
  | _, _, _, .loc _, h => by simp only [Pv.dat] at h; cases h
  | _, _, _, .ro _ _, h => by simp only [Pv.dat] at h; cases h
theorem Rts.dats : ∀ {v : List V} {t : List T} {d : List D}, Rts K H A v t → Pv.dats t = some d → Rps K H v d
  | _, _, _, .nil, h => by simp only [Pv.dats] at h; cases h; exact .nil
  | _, _, _, .cons a b, h => by
    simp only [Pv.dats] at h
    obtain ⟨d, e1, h⟩ := Option.bind_eq_some_iff.mp h
    obtain ⟨ds, e2, h⟩ := Option.map_eq_some_iff.mp h
    subst h
    exact .cons (Rt.dat a e1) (Rts.dats b e2)
end
def dn (t : T) : T := match Pv.dat t with
  | some d => .p d
  | none => t
theorem Rt.dn {v : V} {t : T} (r : Rt K H A v t) : Rt K H A v (Pv.dn t) := by
  unfold Pv.dn
  split
  · next d e => exact .p (r.dat e)
  · exact r
@[simp] theorem dn_p (d : D) : Pv.dn (.p d) = .p d := rfl
@[simp] theorem dn_loc (n : Nat) : Pv.dn (.loc n) = .loc n := rfl
@[simp] theorem dn_ro (xs : List D) : Pv.dn (.ro xs) = .ro xs := rfl
@[simp] theorem dn_ft (xs : List D) : Pv.dn (.ft xs) = .p (.tuple xs) := rfl

/-! ### the store -/
def RKV (K : PySem.W.Frag) (H : Hp) : List (Key × V) → List (Key × D) → Prop := Paired fun p q => p.1 = q.1 ∧ Rp K H p.2 q.2
theorem RKV.keepT (k : KeepT H H') {xs : List (Key × V)} {ys : List (Key × D)} (h : RKV K H xs ys) : RKV K H' xs ys := Paired.mapP h fun _ _ q => ⟨q.1, q.2.keepT k⟩
theorem RKV.keep (k : Keep H H') {xs : List (Key × V)} {ys : List (Key × D)} (h : RKV K H xs ys) : RKV K H' xs ys := h.keepT k.toKeepT
def RO (K : PySem.W.Frag) (H : Hp) (a : Addr) : O → Prop
  | .lst xs => ∃ vs, H a = some (.lst vs) ∧ Rps K H vs xs
  | .dic kvs => ∃ kv, H a = some (.dK kv) ∧ RKV K H kv kvs
  | .lck kvs => ∃ o kv, H a = some (.frz o (.dK kv)) ∧ RKV K H kv kvs
theorem RO.there {a : Addr} {o : O} (h : RO K H a o) : ∃ x, H a = some x ∧ FreeT x := by
  cases o with
  | lst xs => obtain ⟨vs, e, _⟩ := h; exact ⟨_, e, free_lst.1⟩
  | dic xs => obtain ⟨vs, e, _⟩ := h; exact ⟨_, e, free_dK.1⟩
  | lck xs => obtain ⟨o, vs, e, _⟩ := h; exact ⟨_, e, free_lck⟩
theorem RO.keepT (k : KeepT H H') {a : Addr} {o : O} (e : H' a = H a) (h : RO K H a o) : RO K H' a o := by
  cases o with
  | lst xs => obtain ⟨vs, q, r⟩ := h; exact ⟨vs, e.trans q, r.keepT k⟩
  | dic xs => obtain ⟨vs, q, r⟩ := h; exact ⟨vs, e.trans q, r.keepT k⟩
  | lck xs => obtain ⟨o, vs, q, r⟩ := h; exact ⟨o, vs, e.trans q, r.keepT k⟩
theorem RO.keep (k : Keep H H') {a : Addr} {o : O} (e : H' a = H a) (h : RO K H a o) : RO K H' a o := h.keepT k.toKeepT e
structure RS (K : PySem.W.Frag) (H : Hp) (A : List Addr) (S : Sto) : Prop where
  len : A.length = S.length
  nd : A.Nodup
  ob : ∀ (n : Nat) (a : Addr) (o : O), A[n]? = some a → S[n]? = some o → RO K H a o
theorem RS.there {S : Sto} (h : RS K H A S) {n : Nat} {a : Addr} (e : A[n]? = some a) : ∃ x, H a = some x ∧ FreeT x := by
  have hn := (List.getElem?_eq_some_iff.mp e).1
  rw [h.len] at hn
  exact (h.ob n a _ e (List.getElem?_eq_getElem hn)).there
theorem RS.not_mem {S : Sto} (h : RS K H A S) {p : Addr} (n : H p = none) : p ∉ A := fun m => by
  obtain ⟨i, hi⟩ := List.getElem?_of_mem m
  obtain ⟨x, e, _⟩ := h.there hi
  rw [n] at e; cases e
/-- a new tuple, or another thing that the store doesn't tell -/
theorem RS.new {S : Sto} (h : RS K H A S) {p : Addr} {o : HO} (n : H p = none) : RS K (upd H p o) A S :=
  ⟨h.len, h.nd, fun i a ob e q => by
    have ne : a ≠ p := fun z => h.not_mem n (z ▸ List.mem_of_getElem? e)
    exact (h.ob i a ob e q).keep (Keep.new n) (upd_ne ne)⟩
theorem RS.push {S : Sto} (h : RS K H A S) {p : Addr} {o : HO} {ob : O} (n : H p = none) (q : RO K (upd H p o) p ob) : RS K (upd H p o) (A ++ [p]) (S ++ [ob]) := by
  have h' := h.new (o := o) n
  refine ⟨by simp [h.len], ?_, fun i a ob' e q' => ?_⟩
  · rw [List.nodup_append]
    refine ⟨h.nd, by simp, fun a ha b hb => ?_⟩
    have : b = p := by simpa using hb
    subst this
    exact fun z => h.not_mem n (z ▸ ha)
  · by_cases hi : i < A.length
    · rw [List.getElem?_append_left hi] at e
      rw [List.getElem?_append_left (h.len ▸ hi)] at q'
      exact h'.ob i a ob' e q'
    · have hi' : A.length ≤ i := Nat.le_of_not_lt hi
      rw [List.getElem?_append_right hi'] at e
      rw [List.getElem?_append_right (h.len ▸ hi')] at q'
      have z : i - A.length = 0 := by
        have := (List.getElem?_eq_some_iff.mp e).1
        simp at this; omega
      rw [z] at e
      rw [h.len] at z
      rw [z] at q'
      simp at e q'
      subst e; subst q'
      exact q
theorem RS.put {S : Sto} (h : RS K H A S) {n : Nat} {a : Addr} {o : HO} {ob : O} (e : A[n]? = some a) (q : RO K (upd H a o) a ob) : RS K (upd H a o) A (S.set n ob) := by
  obtain ⟨x, hx, fx⟩ := h.there e
  refine ⟨by simp [h.len], h.nd, fun i b ob' e' q' => ?_⟩
  by_cases hi : n = i
  · subst hi
    rw [e] at e'; cases e'
    have hn := (List.getElem?_eq_some_iff.mp e).1
    rw [h.len] at hn
    rw [List.getElem?_set_self hn] at q'
    cases q'
    exact q
  · rw [List.getElem?_set_ne hi] at q'
    have ne : b ≠ a := fun z => by
      subst z
      exact hi ((List.getElem?_inj (List.getElem?_eq_some_iff.mp e).1 h.nd).mp (e.trans e'.symm))
    exact (h.ob i b ob' e' q').keepT (KeepT.put hx fx) (upd_ne ne)
theorem RS.take {S : Sto} (h : RS K H A S) (n : Nat) : RS K H (A.take n) (S.take n) :=
  ⟨by simp [h.len], h.nd.sublist (List.take_sublist _ _), fun i a o e q => by
    have hi : i < n := by
      have := (List.getElem?_eq_some_iff.mp e).1
      simp at this; omega
    rw [List.getElem?_take_of_lt hi] at e q
    exact h.ob i a o e q⟩
theorem RS.at {S : Sto} (h : RS K H A S) {n : Nat} {o : O} (q : S[n]? = some o) : ∃ a, A[n]? = some a ∧ RO K H a o := by
  have hn := (List.getElem?_eq_some_iff.mp q).1
  rw [← h.len] at hn
  exact ⟨_, List.getElem?_eq_getElem hn, h.ob n _ o (List.getElem?_eq_getElem hn) q⟩

/-! ### the slots -/
def RE (K : PySem.W.Frag) (H : Hp) (A : List Addr) (σ : L2.St) (env : Env) : Prop := σ.length = env.length ∧ ∀ (i : Nat) (t : T), env[i]? = some (some t) → ∃ v, σ[i]? = some (some v) ∧ Rt K H A v t
theorem RE.keepT {σ : L2.St} {env : Env} (k : KeepT H H') (p : Pre A A') (h : RE K H A σ env) : RE K H' A' σ env :=
  ⟨h.1, fun i t e => let ⟨v, e1, r⟩ := h.2 i t e; ⟨v, e1, r.keepT k p⟩⟩
theorem RE.keep {σ : L2.St} {env : Env} (k : Keep H H') (p : Pre A A') (h : RE K H A σ env) : RE K H' A' σ env := h.keepT k.toKeepT p
theorem RE.set {σ : L2.St} {env : Env} {v : V} {t : T} (h : RE K H A σ env) (r : Rt K H A v t) (i : Nat) : RE K H A (σ.set i (some v)) (env.set i (some t)) := by
  refine ⟨by simp [h.1], fun j u e => ?_⟩
  by_cases hj : i = j
  · subst hj
    by_cases hl : i < env.length
    · rw [List.getElem?_set_self hl] at e
      cases e
      exact ⟨v, List.getElem?_set_self (h.1 ▸ hl), r⟩
    · rw [List.getElem?_eq_none (by simpa using hl)] at e; cases e
  · rw [List.getElem?_set_ne hj] at e
    obtain ⟨x, e1, r1⟩ := h.2 j u e
    exact ⟨x, by rw [List.getElem?_set_ne hj]; exact e1, r1⟩
end
end Pv
set_option maxHeartbeats 4000000
/-! Pv2: the judgements, names, operators, tests, displays, statements, for, while, defs. -/
namespace Pv
open PySem PySem.Spec PyProof.Rows L2

/-! ### what a function of slots and store tells of a reading -/
def EOk (K : PySem.W.Frag) (t : TE) (f : EF) : Prop := ∀ (σ : L2.St) (H : Hp) (A : List Addr) (env : Env) (S : Sto) (r : T) (S' : Sto), RE K H A σ env → RS K H A S → f env S = some (r, S') →
  ∀ Q : VK, (∀ v H' A', Pre A A' → Keep H H' → RS K H' A' S' → Rt K H' A' v r → Q v H') → t σ H Q
def TOk (K : PySem.W.Frag) (t : TT) (f : TF) : Prop := ∀ (σ : L2.St) (H : Hp) (A : List Addr) (env : Env) (S : Sto) (r : Bool) (S' : Sto), RE K H A σ env → RS K H A S → f env S = some (r, S') →
  ∀ Q : Bool → Hp → Prop, (∀ H' A', Pre A A' → Keep H H' → RS K H' A' S' → Q r H') → t σ H Q
def AOk (K : PySem.W.Frag) (t : TA) (f : AF) : Prop := ∀ (σ : L2.St) (H : Hp) (A : List Addr) (env : Env) (S : Sto) (r : List T) (S' : Sto), RE K H A σ env → RS K H A S → f env S = some (r, S') →
  ∀ Q : List V → Hp → Prop, (∀ v H' A', Pre A A' → Keep H H' → RS K H' A' S' → Rts K H' A' v r → Q v H') → t σ H Q
/-- the numbers below n stand for what they stood for -/
def SameTo (n : Nat) (A A' : List Addr) : Prop := ∀ (i : Nat) (a : Addr), i < n → A[i]? = some a → A'[i]? = some a
theorem Pre.sameTo {A A' : List Addr} (h : Pre A A') (n : Nat) : SameTo n A A' := fun i a _ e => h i a e
theorem SameTo.trans {n : Nat} {A A1 A2 : List Addr} (h : SameTo n A A1) (h' : SameTo n A1 A2) : SameTo n A A2 := fun i a l e => h' i a l (h i a l e)
theorem SameTo.le {n : Nat} {A A' : List Addr} (h : SameTo n A A') (hn : n ≤ A.length) : n ≤ A'.length := by
  cases n with
  | zero => exact Nat.zero_le _
  | succ m => exact (List.getElem?_eq_some_iff.mp (h m _ (Nat.lt_succ_self m) (List.getElem?_eq_getElem hn))).1
theorem SameTo.mono {m n : Nat} {A A' : List Addr} (h : SameTo n A A') (l : m ≤ n) : SameTo m A A' := fun i a hi e => h i a (Nat.lt_of_lt_of_le hi l) e
def EndOk (K : PySem.W.Frag) (H : Hp) (A : List Addr) (o : Out) (env : Env) (D : Ends) : Prop := match o with
  | .nx => ∀ σ, RE K H A σ env → D.nx σ H
  | .bk => ∀ σ, RE K H A σ env → D.bk σ H
  | .ct => ∀ σ, RE K H A σ env → D.ct σ H
  | .rt r => ∀ v, Rt K H A v r → D.rt v H
def SOk (K : PySem.W.Frag) (t : TS) (f : SF) : Prop := ∀ (n0 : Nat) (σ : L2.St) (H : Hp) (A : List Addr) (env : Env) (S : Sto) (o : Out) (env' : Env) (S' : Sto), n0 ≤ S.length → RE K H A σ env → RS K H A S → f n0 env S = some (o, env', S') →
  ∀ D : Ends, (∀ H' A', SameTo n0 A A' → Keep H H' → RS K H' A' S' → EndOk K H' A' o env' D) → t D σ H
structure PV (X : Cx) (e : Expr) (t : TE) (f : EF) : Prop where
  pe : PE X e t
  ok : EOk X.K t f
structure PVT (X : Cx) (e : Expr) (t : TT) (f : TF) : Prop where
  pt : PT X e t
  ok : TOk X.K t f
structure PVW (X : Cx) (e : Expr) (t : TT) (f : TF) : Prop where
  pw : PW X e t
  ok : TOk X.K t f
structure PVA (X : Cx) (es : List Expr) (t : TA) (f : AF) : Prop where
  pa : PA X es t
  ok : AOk X.K t f
structure PVS (X : Cx) (st : Stmt) (t : TS) (f : SF) : Prop where
  ps : PS X st t
  ok : SOk X.K t f
structure PVB (X : Cx) (st : List Stmt) (t : TS) (f : SF) : Prop where
  ps : PSs X st t
  ok : SOk X.K t f
theorem PVW.pt {X : Cx} {e : Expr} {t : TT} {f : TF} (h : PVW X e t f) : PVT X e t f := ⟨h.pw.pt, h.ok⟩
theorem PV.as {X : Cx} {e : Expr} {t : TE} {f g : EF} (h : PV X e t f) (q : f = g) : PV X e t g := q ▸ h

section
variable {X : Cx} {a b e : Expr} {es : List Expr} {ta tb te : TE} {fa fb fe : EF} {pos : Pos}

/-! ### what is not come to -/
def noneF : EF := fun _ _ => none
theorem pv_no : PV X e (fun _ _ _ => False) noneF := ⟨⟨fun _ _ _ _ _ _ h => h.elim⟩, fun _ _ _ _ _ _ _ _ _ h => (nomatch h)⟩
def noneS : SF := fun _ _ _ => none
theorem pvs_no {st : Stmt} : PVS X st tNever noneS := ⟨ps_never, fun _ _ _ _ _ _ _ _ _ _ _ _ h => (nomatch h)⟩

/-! ### names, constants -/
def rawF (i : Nat) : EF := fun env S => match env[i]? with
  | some (some t) => some (t, S)
  | _ => none
theorem pv_raw (i : Nat) {x : Str} {pos : Pos} (hN : X.N[i]? = some x := by rfl) (hv : Vis X.env.scope x := by first | exact Or.inl rfl | exact Or.inr (Or.inl rfl) | exact Or.inr (Or.inr rfl)) (hd : (x == ("__debug__" : Str)) = false := by decide)
    (hcd : (x == ("__classdict__" : Str)) = false := by decide) : PV X (.Name x pos) (tVar i) (rawF i) := by
  refine ⟨pe_var hN hv hd hcd, fun σ H A env S r S' he hs h Q hq => ?_⟩
  unfold rawF at h
  split at h
  · next t e1 =>
    cases h
    obtain ⟨v, e2, r2⟩ := he.2 i _ e1
    exact ⟨v, e2, hq v H A (Pre.refl A) (Keep.refl H) hs r2⟩
  · cases h
/-- told as data where it is data -/
def dnF (f : EF) : EF := fun env S => (f env S).map fun x => (dn x.1, x.2)
theorem dn_ok {K : PySem.W.Frag} (h : EOk K te fe) : EOk K te (dnF fe) := by
  intro σ H A env S r S' he hs hf Q hq
  obtain ⟨⟨x, S1⟩, e1, hf⟩ := Option.map_eq_some_iff.mp hf
  cases hf
  exact h σ H A env S x S1 he hs e1 Q fun v H' A' p k s r => hq v H' A' p k s r.dn
theorem pv_dn (h : PV X e te fe) : PV X e te (dnF fe) := ⟨h.pe, dn_ok h.ok⟩
def varF (i : Nat) : EF := fun env S => match env[i]? with
  | some (some t) => some (dn t, S)
  | _ => none
theorem pv_var (i : Nat) {x : Str} {pos : Pos} (hN : X.N[i]? = some x := by rfl) (hv : Vis X.env.scope x := by first | exact Or.inl rfl | exact Or.inr (Or.inl rfl) | exact Or.inr (Or.inr rfl)) (hd : (x == ("__debug__" : Str)) = false := by decide)
    (hcd : (x == ("__classdict__" : Str)) = false := by decide) : PV X (.Name x pos) (tVar i) (varF i) := by
  refine ⟨pe_var hN hv hd hcd, fun σ H A env S r S' he hs h Q hq => ?_⟩
  unfold varF at h
  split at h
  · next t e1 =>
    cases h
    obtain ⟨v, e2, r2⟩ := he.2 i _ e1
    exact ⟨v, e2, hq v H A (Pre.refl A) (Keep.refl H) hs r2.dn⟩
  · cases h
def conF (d : D) : EF := fun _ S => some (.p d, S)
theorem con_ok {K : PySem.W.Frag} {v : V} {d : D} (r : ∀ H, Rp K H v d) : EOk K (tC v) (conF d) := by
  intro σ H A env S r' S' he hs h Q hq
  cases h
  exact hq v H A (Pre.refl A) (Keep.refl H) hs (.p (r H))
theorem pv_int {i : Int} {j pos} : PV X (.Constant (.int i) j pos) (tC (.int i)) (conF (.int i)) := ⟨pe_int, con_ok fun _ => .int i⟩
theorem pv_bl {b : Bool} {j pos} : PV X (.Constant (.bool b) j pos) (tC (.bl b)) (conF (.bool b)) := ⟨pe_bl, con_ok fun _ => .bl b⟩
theorem pv_non {j pos} : PV X (.Constant .none j pos) (tC .non) (conF .none) := ⟨pe_non, con_ok fun _ => .non⟩
theorem pv_str {x : Str} {j pos} : PV X (.Constant (.str x) j pos) (tC (.str x)) (conF (.str x)) := ⟨pe_str, con_ok fun _ => .str x⟩
theorem pv_globI {x : Str} {i : Int} {u : Value} {pos : Pos} (hg : Gl X x) (hm : X.mg x = some u) (r : RelV (.int i) u) (hd : (x == ("__debug__" : Str)) = false := by decide) : PV X (.Name x pos) (tC (.int i)) (conF (.int i)) := ⟨pe_glob hg hm r hd, con_ok fun _ => .int i⟩
theorem pv_globS {x : Str} {i : Str} {u : Value} {pos : Pos} (hg : Gl X x) (hm : X.mg x = some u) (r : RelV (.str i) u) (hd : (x == ("__debug__" : Str)) = false := by decide) : PV X (.Name x pos) (tC (.str i)) (conF (.str i)) := ⟨pe_glob hg hm r hd, con_ok fun _ => .str i⟩

/-! ### operators by values -/
abbrev Op2 := T → T → Sto → Option (T × Sto)
def OpOk (K : PySem.W.Frag) (r : R2) (g : Op2) : Prop := ∀ (H : Hp) (A : List Addr) (S : Sto) (x y : V) (a b : T) (v : T) (S' : Sto), RS K H A S → Rt K H A x a → Rt K H A y b → g a b S = some (v, S') →
  ∀ Q : VK, (∀ u H' A', Pre A A' → Keep H H' → RS K H' A' S' → Rt K H' A' u v → Q u H') → r x y H Q
def binF (g : Op2) (fa fb : EF) : EF := fun env S => (fa env S).bind fun x => (fb env x.2).bind fun y => g x.1 y.1 y.2
theorem op_ok {K : PySem.W.Frag} {r : R2} {g : Op2} (h : OpOk K r g) (ha : EOk K ta fa) (hb : EOk K tb fb) : EOk K (tOp r ta tb) (binF g fa fb) := by
  intro σ H A env S v S' he hs hf Q hq
  obtain ⟨⟨x, S1⟩, e1, hf⟩ := Option.bind_eq_some_iff.mp hf
  obtain ⟨⟨y, S2⟩, e2, hf⟩ := Option.bind_eq_some_iff.mp hf
  refine ha σ H A env S x S1 he hs e1 _ fun u H1 A1 p1 k1 s1 r1 => ?_
  refine hb σ H1 A1 env S1 y S2 (he.keep k1 p1) s1 e2 _ fun u2 H2 A2 p2 k2 s2 r2 => ?_
  exact h H2 A2 S2 u u2 x y v S' s2 (r1.keep k2 p2) r2 hf Q fun u3 H3 A3 p3 k3 s3 r3 => hq u3 H3 A3 (p1.trans (p2.trans p3)) (k1.trans (k2.trans k3)) s3 r3
theorem pv_op {op : Operator} {r : R2} {g : Op2} (ho : OpR X (binaryOp op) r) (h : OpOk X.K r g) (ha : PV X a ta fa) (hb : PV X b tb fb) : PV X (.BinOp a op b pos) (tOp r ta tb) (binF g fa fb) :=
  ⟨pe_op ho ha.pe hb.pe, op_ok h ha.ok hb.ok⟩
theorem pv_cmp {op : CmpOp} {r : R2} {g : Op2} (ho : OpR X (compareOp op) r) (h : OpOk X.K r g) (ha : PV X a ta fa) (hb : PV X b tb fb) (hm : behindInMarks op b = false) : PV X (.Compare a [op] [b] pos) (tOp r ta tb) (binF g fa fb) :=
  ⟨pe_cmpR ho ha.pe hb.pe hm, op_ok h ha.ok hb.ok⟩
theorem pv_ix {r : R2} {g : Op2} (ho : IxR X r) (h : OpOk X.K r g) (ha : PV X a ta fa) (hb : PV X b tb fb) (hs : PlainIx b) : PV X (.Subscript a b pos) (tOp r ta tb) (binF g fa fb) :=
  ⟨pe_ix ho ha.pe hb.pe hs, op_ok h ha.ok hb.ok⟩
abbrev Op1 := T → Sto → Option (T × Sto)
def unF (g : Op1) (fa : EF) : EF := fun env S => (fa env S).bind fun x => g x.1 x.2
def UnOk (K : PySem.W.Frag) (r : V → Hp → VK → Prop) (g : Op1) : Prop := ∀ (H : Hp) (A : List Addr) (S : Sto) (x : V) (a : T) (v : T) (S' : Sto), RS K H A S → Rt K H A x a → g a S = some (v, S') →
  ∀ Q : VK, (∀ u H' A', Pre A A' → Keep H H' → RS K H' A' S' → Rt K H' A' u v → Q u H') → r x H Q
theorem un_ok {K : PySem.W.Frag} {r : V → Hp → VK → Prop} {g : Op1} (h : UnOk K r g) (ha : EOk K ta fa) : EOk K (tUn r ta) (unF g fa) := by
  intro σ H A env S v S' he hs hf Q hq
  obtain ⟨⟨x, S1⟩, e1, hf⟩ := Option.bind_eq_some_iff.mp hf
  refine ha σ H A env S x S1 he hs e1 _ fun u H1 A1 p1 k1 s1 r1 => ?_
  exact h H1 A1 S1 u x v S' s1 r1 hf Q fun u3 H3 A3 p3 k3 s3 r3 => hq u3 H3 A3 (p1.trans p3) (k1.trans k3) s3 r3
theorem pv_un {op : UnaryOp} {r : V → Hp → VK → Prop} {g : Op1} (ho : UnR X (unaryOp op) r) (h : UnOk X.K r g) (ha : PV X a ta fa) : PV X (.UnaryOp op a pos) (tUn r ta) (unF g fa) := ⟨pe_un ho ha.pe, un_ok h ha.ok⟩

/-! ### two ints -/
def iop (g : Int → Int → Option D) : Op2 := fun x y S => match x, y with
  | .p (.int i), .p (.int j) => (g i j).map fun d => (.p d, S)
  | _, _ => none
theorem iop_ok {K : PySem.W.Frag} {C : Int → Int → Prop} [∀ i j, Decidable (C i j)] {g : Int → Int → V} {d : Int → Int → D} (hg : ∀ i j H, Rp K H (g i j) (d i j)) : OpOk K (rI C g) (iop fun i j => if C i j then some (d i j) else none) := by
  intro H A S x y a b v S' hs rx ry h Q hq
  unfold iop at h
  split at h
  · rename_i i j
    cases rx with
    | p rx => cases rx; cases ry with
      | p ry =>
        cases ry
        by_cases hc : C i j
        · simp only [if_pos hc] at h; cases h
          exact ⟨i, j, rfl, rfl, hc, hq _ H A (Pre.refl A) (Keep.refl H) hs (.p (hg i j H))⟩
        · simp only [if_neg hc] at h; cases h
  · cases h
theorem iop_ok0 {K : PySem.W.Frag} {g : Int → Int → V} {d : Int → Int → D} (hg : ∀ i j H, Rp K H (g i j) (d i j)) : OpOk K (rI0 g) (iop fun i j => some (d i j)) := by
  intro H A S x y a b v S' hs rx ry h Q hq
  unfold iop at h
  split at h
  · rename_i i j
    cases rx with
    | p rx => cases rx; cases ry with
      | p ry =>
        cases ry
        cases h
        exact ⟨i, j, rfl, rfl, hq _ H A (Pre.refl A) (Keep.refl H) hs (.p (hg i j H))⟩
  · cases h
theorem OpOk.or {K : PySem.W.Frag} {r r' : R2} {g g' : Op2} (h : OpOk K r g) (h' : OpOk K r' g') : OpOk K (fun x y H Q => r x y H Q ∨ r' x y H Q) (fun x y S => (g x y S).or (g' x y S)) := by
  intro H A S x y a b v S' hs rx ry hf Q hq
  have hf : (g a b S).or (g' a b S) = some (v, S') := hf
  cases e : g a b S with
  | some z => rw [e] at hf; cases hf; exact .inl (h H A S x y a b v S' hs rx ry e Q hq)
  | none => rw [e] at hf; exact .inr (h' H A S x y a b v S' hs rx ry hf Q hq)
instance {i j : Int} : Decidable (CMul i j) := inferInstanceAs (Decidable (_ ∨ _))
instance {i j : Int} : Decidable (CPow i j) := inferInstanceAs (Decidable (_ ∧ _))
instance {i j : Int} : Decidable (CDiv i j) := inferInstanceAs (Decidable (_ ∧ _))
abbrev subI : Op2 := iop fun i j => some (.int (i - j))
abbrev mulI : Op2 := iop fun i j => if CMul i j then some (.int (i * j)) else none
abbrev divI : Op2 := iop fun i j => if CDiv i j then some (.int (i / j)) else none
abbrev modI : Op2 := iop fun i j => if 0 < j then some (.int (i % j)) else none
abbrev powI : Op2 := iop fun i j => if CPow i j then some (.int (i ^ j.toNat)) else none
abbrev ltI : Op2 := iop fun i j => some (.bool (decide (i < j)))
abbrev leI : Op2 := iop fun i j => some (.bool (decide (i ≤ j)))
abbrev gtI : Op2 := iop fun i j => some (.bool (decide (j < i)))
abbrev geI : Op2 := iop fun i j => some (.bool (decide (j ≤ i)))
theorem pv_sub (ha : PV X a ta fa) (hb : PV X b tb fb) : PV X (.BinOp a .Sub b pos) (tOp (rI0 fun i j => .int (i - j)) ta tb) (binF subI fa fb) := pv_op op_sub (iop_ok0 fun i j H => .int _) ha hb
theorem pv_mulI (ha : PV X a ta fa) (hb : PV X b tb fb) : PV X (.BinOp a .Mult b pos) (tOp (rI CMul fun i j => .int (i * j)) ta tb) (binF mulI fa fb) := pv_op op_mul (iop_ok fun i j H => .int _) ha hb
theorem pv_div (ha : PV X a ta fa) (hb : PV X b tb fb) : PV X (.BinOp a .FloorDiv b pos) (tOp (rI CDiv fun i j => .int (i / j)) ta tb) (binF divI fa fb) := pv_op op_fdiv (iop_ok fun i j H => .int _) ha hb
theorem pv_mod (ha : PV X a ta fa) (hb : PV X b tb fb) : PV X (.BinOp a .Mod b pos) (tOp (rI (fun _ j => 0 < j) fun i j => .int (i % j)) ta tb) (binF modI fa fb) := pv_op op_mod (iop_ok fun i j H => .int _) ha hb
theorem pv_pow (ha : PV X a ta fa) (hb : PV X b tb fb) : PV X (.BinOp a .Pow b pos) (tOp (rI CPow fun i j => .int (i ^ j.toNat)) ta tb) (binF powI fa fb) := pv_op op_pow (iop_ok fun i j H => .int _) ha hb
theorem pv_lt (ha : PV X a ta fa) (hb : PV X b tb fb) : PV X (.Compare a [.Lt] [b] pos) (tOp (rI0 fun i j => .bl (decide (i < j))) ta tb) (binF ltI fa fb) := pv_cmp op_lt (iop_ok0 fun i j H => .bl _) ha hb (nomark _)
theorem pv_le (ha : PV X a ta fa) (hb : PV X b tb fb) : PV X (.Compare a [.LtE] [b] pos) (tOp (rI0 fun i j => .bl (decide (i ≤ j))) ta tb) (binF leI fa fb) := pv_cmp op_le (iop_ok0 fun i j H => .bl _) ha hb (nomark _)
theorem pv_gt (ha : PV X a ta fa) (hb : PV X b tb fb) : PV X (.Compare a [.Gt] [b] pos) (tOp (rI0 fun i j => .bl (decide (j < i))) ta tb) (binF gtI fa fb) := pv_cmp op_gt (iop_ok0 fun i j H => .bl _) ha hb (nomark _)
theorem pv_ge (ha : PV X a ta fa) (hb : PV X b tb fb) : PV X (.Compare a [.GtE] [b] pos) (tOp (rI0 fun i j => .bl (decide (j ≤ i))) ta tb) (binF geI fa fb) := pv_cmp op_ge (iop_ok0 fun i j H => .bl _) ha hb (nomark _)
def negF : Op1 := fun x S => match x with
  | .p (.int i) => some (.p (.int (-i)), S)
  | _ => none
theorem pv_neg (ha : PV X a ta fa) : PV X (.UnaryOp .USub a pos) (tUn (rU fun i => .int (-i)) ta) (unF negF fa) := pv_un un_neg (fun H A S x a v S' hs rx h Q hq => by
  unfold negF at h
  split at h
  · cases rx with
    | p rx =>
      cases rx
      cases h
      exact ⟨_, rfl, hq _ H A (Pre.refl A) (Keep.refl H) hs (.p (.int _))⟩
  · cases h) ha

/-! ### + -/
def rAdd (K : PySem.W.Frag) : R2 := fun x y H Q => (rI0 (fun i j => .int (i + j)) x y H Q ∨ (∃ i j, x = .str i ∧ y = .str j ∧ i.length + j.length ≤ sizeLine ∧ Q (.str (i ++ j)) H)) ∨ (rCatA K x y H Q ∨ rCat x y H Q)
def addT : Op2 := fun x y S => match x, y with
  | .p (.int i), .p (.int j) => some (.p (.int (i + j)), S)
  | .p (.str i), .p (.str j) => if i.length + j.length ≤ sizeLine then some (.p (.str (i ++ j)), S) else none
  | .p (.tuple xs), .p (.tuple ys) => if xs.length + ys.length ≤ sizeLine ∧ (xs ≠ [] ∨ ys ≠ []) then some (.p (.tuple (xs ++ ys)), S) else none
  | .loc n, .loc m => match S[n]?, S[m]? with
    | some (.lst xs), some (.lst ys) => if xs.length + ys.length ≤ sizeLine then some (.loc S.length, S ++ [.lst (xs ++ ys)]) else none
    | _, _ => none
  | _, _ => none
theorem Rt.tupOf {K : PySem.W.Frag} {H : Hp} {A : List Addr} {v : V} {ds : List D} (h : Rt K H A v (.p (.tuple ds))) : ∃ a vs, v = .ref a ∧ SqT K H a vs ∧ Rps K H vs ds := by
  cases h with
  | p h => cases h with
    | tup s r => exact ⟨_, _, rfl, s, r⟩
theorem Rt.locOf {K : PySem.W.Frag} {H : Hp} {A : List Addr} {v : V} {n : Nat} (h : Rt K H A v (.loc n)) : ∃ a, v = .ref a ∧ A[n]? = some a := by
  cases h with
  | loc e => exact ⟨_, rfl, e⟩
theorem RS.lstOf {K : PySem.W.Frag} {H : Hp} {A : List Addr} {S : Sto} (h : RS K H A S) {n : Nat} {a : Addr} {xs : List D} (e : A[n]? = some a) (q : S[n]? = some (.lst xs)) : ∃ vs, H a = some (.lst vs) ∧ Rps K H vs xs := h.ob n a _ e q
/-- a new list -/
theorem RS.newL {K : PySem.W.Frag} {H : Hp} {A : List Addr} {S : Sto} (h : RS K H A S) {p : Addr} (n : H p = none) {vs : List V} {ds : List D} (r : Rps K H vs ds) : RS K (upd H p (.lst vs)) (A ++ [p]) (S ++ [.lst ds]) :=
  h.push n ⟨vs, upd_same, r.keep (Keep.new n)⟩
theorem RS.numL {K : PySem.W.Frag} {H H' : Hp} {A : List Addr} {S : Sto} (h : RS K H A S) {p : Addr} : Rt K H' (A ++ [p]) (.ref p) (.loc S.length) := .loc (by rw [← h.len]; simp)
theorem add_ok {K : PySem.W.Frag} : OpOk K (rAdd K) addT := by
  intro H A S x y a b v S' hs rx ry h Q hq
  unfold addT at h
  split at h
  · cases rx with
    | p rx => cases rx; cases ry with
      | p ry => cases ry; cases h; exact .inl (.inl ⟨_, _, rfl, rfl, hq _ H A (Pre.refl A) (Keep.refl H) hs (.p (.int _))⟩)
  · cases rx with
    | p rx => cases rx; cases ry with
      | p ry =>
        cases ry
        split at h
        · cases h; exact .inl (.inr ⟨_, _, rfl, rfl, by assumption, hq _ H A (Pre.refl A) (Keep.refl H) hs (.p (.str _))⟩)
        · cases h
  · obtain ⟨p, vs, rfl, s1, r1⟩ := rx.tupOf
    obtain ⟨q, us, rfl, s2, r2⟩ := ry.tupOf
    split at h
    · rename_i hc
      cases h
      have l1 := r1.length
      have l2 := r2.length
      refine .inr (.inl ⟨p, q, vs, us, rfl, rfl, s1, s2, by rw [l1, l2]; exact hc.1, fun e => ?_, fun e1 e2 => ?_, fun e1 e2 z hz => ?_⟩)
      · subst e
        cases r1
        exact hq _ H A (Pre.refl A) (Keep.refl H) hs (.p (.tup s2 r2))
      · subst e2
        cases r2
        exact hq _ H A (Pre.refl A) (Keep.refl H) hs (.p (.tup s1 (by rw [List.append_nil]; exact r1)))
      · exact hq _ _ A (Pre.refl A) (Keep.new hz) (hs.new hz) (.p (.tup (SqT.of upd_same) ((r1.app r2).keep (Keep.new hz))))
    · cases h
  · obtain ⟨p, rfl, e1⟩ := rx.locOf
    obtain ⟨q, rfl, e2⟩ := ry.locOf
    split at h
    · rename_i xs ys g1 g2
      obtain ⟨vs, h1, r1⟩ := hs.lstOf e1 g1
      obtain ⟨us, h2, r2⟩ := hs.lstOf e2 g2
      split at h
      · rename_i hc
        cases h
        refine .inr (.inr ⟨p, q, vs, us, rfl, rfl, h1, h2, by rw [r1.length, r2.length]; exact hc, fun z hz => ?_⟩)
        exact hq _ _ _ (Pre.app A [z]) (Keep.new hz) (hs.newL hz (r1.app r2)) hs.numL
      · cases h
    · cases h
  · cases h
theorem op_addT : OpR X (binaryOp .Add) (rAdd X.K) := ((op_add).or op_add_str).or (op_catA.or op_cat)
theorem pv_add (ha : PV X a ta fa) (hb : PV X b tb fb) : PV X (.BinOp a .Add b pos) (tOp (rAdd X.K) ta tb) (binF addT fa fb) := pv_op op_addT add_ok ha hb

/-! ### ==, !=, in, is -/
def deep (d : D) : Bool := SeqAt.shaped d
mutual
def isP : D → Bool
  | .none | .bool _ | .int _ | .str _ => true
  | .tuple xs => isPs xs
  | _ => false
def isPs : List D → Bool
  | [] => true
  | x :: xs => isP x && isPs xs
end
/-- what a value is as data, lists told -/
def datOf (S : Sto) (t : T) : Option D := match dat t with
  | some d => some d
  | none => match t with
    | .loc n => match S[n]? with
      | some (.lst xs) => some (.list xs)
      | _ => none
    | .ro xs => some (.list xs)
    | _ => none
theorem datOf_ok {K : PySem.W.Frag} {H : Hp} {A : List Addr} {S : Sto} {x : V} {a : T} {d : D} (hs : RS K H A S) (r : Rt K H A x a) (h : datOf S a = some d) : Dp K H x d := by
  unfold datOf at h
  split at h
  · next d' e => cases h; exact (r.dat e).dp
  · split at h
    · split at h
      · next n _ xs g =>
        cases h
        obtain ⟨a, rfl, e⟩ := r.locOf
        obtain ⟨vs, h1, r1⟩ := hs.lstOf e g
        exact .lst (SqL.of h1) r1.dps
      · cases h
    · cases h
      cases r with
      | ro s r => exact .lst s.sql r.dps
    · cases h
def eqT (neg : Bool) : Op2 := fun x y S => match datOf S x, datOf S y with
  | some d, some e => if deep d = true ∧ deep e = true then some (.p (.bool (if neg then !PyData.eqv d e else PyData.eqv d e)), S) else none
  | _, _ => none
theorem eq_ok {K : PySem.W.Frag} : OpOk K (rEqD K) (eqT false) := by
  intro H A S x y a b v S' hs rx ry h Q hq
  unfold eqT at h
  split at h
  · rename_i d e g1 g2
    split at h
    · rename_i hc
      cases h
      exact ⟨d, e, datOf_ok hs rx g1, datOf_ok hs ry g2, hc.1, hc.2, hq _ H A (Pre.refl A) (Keep.refl H) hs (.p (.bl _))⟩
    · cases h
  · cases h
theorem ne_ok {K : PySem.W.Frag} : OpOk K (rNeD K) (eqT true) := by
  intro H A S x y a b v S' hs rx ry h Q hq
  unfold eqT at h
  split at h
  · rename_i d e g1 g2
    split at h
    · rename_i hc
      cases h
      exact ⟨d, e, datOf_ok hs rx g1, datOf_ok hs ry g2, hc.1, hc.2, hq _ H A (Pre.refl A) (Keep.refl H) hs (.p (.bl _))⟩
    · cases h
  · cases h
theorem pv_eq (hu : X.A.units + 64 < cLine) (ha : PV X a ta fa) (hb : PV X b tb fb) : PV X (.Compare a [.Eq] [b] pos) (tOp (rEqD X.K) ta tb) (binF (eqT false) fa fb) := pv_cmp (op_eqD hu) eq_ok ha hb (nomark _)
theorem pv_ne (hu : X.A.units + 64 < cLine) (ha : PV X a ta fa) (hb : PV X b tb fb) : PV X (.Compare a [.NotEq] [b] pos) (tOp (rNeD X.K) ta tb) (binF (eqT true) fa fb) := pv_cmp (op_neD hu) ne_ok ha hb (nomark _)
/-- x is None, x is not None -/
def isNone : T → Bool
  | .p .none => true
  | _ => false
def isN (neg : Bool) : Op2 := fun x y S => match y with
  | .p .none => some (.p (.bool (if neg then !isNone x else isNone x)), S)
  | _ => none
theorem Rt.none_iff {K : PySem.W.Frag} {H : Hp} {A : List Addr} {x : V} {a : T} (r : Rt K H A x a) : decide (x = .non) = isNone a := by
  cases r with
  | p r => cases r <;> rfl
  | loc e => rfl
  | mix s r => rfl
  | ro s r => rfl
  | ft s d r => rfl
theorem isN_ok {K : PySem.W.Frag} : OpOk K (fun x y H Q => y = .non ∧ Q (.bl (decide (x = .non))) H) (isN false) := by
  intro H A S x y a b v S' hs rx ry h Q hq
  unfold isN at h
  split at h
  · cases ry with
    | p ry =>
      cases ry; cases h
      refine ⟨rfl, ?_⟩
      rw [rx.none_iff]
      exact hq _ H A (Pre.refl A) (Keep.refl H) hs (.p (.bl _))
  · cases h
theorem notN_ok {K : PySem.W.Frag} : OpOk K (fun x y H Q => y = .non ∧ Q (.bl (!decide (x = .non))) H) (isN true) := by
  intro H A S x y a b v S' hs rx ry h Q hq
  unfold isN at h
  split at h
  · cases ry with
    | p ry =>
      cases ry; cases h
      refine ⟨rfl, ?_⟩
      rw [rx.none_iff]
      exact hq _ H A (Pre.refl A) (Keep.refl H) hs (.p (.bl _))
  · cases h
theorem pv_isN (ha : PV X a ta fa) (hb : PV X b tb fb) : PV X (.Compare a [.Is] [b] pos) (tOp (fun x y H Q => y = .non ∧ Q (.bl (decide (x = .non))) H) ta tb) (binF (isN false) fa fb) := pv_cmp op_isN isN_ok ha hb (nomark _)
theorem pv_notN (ha : PV X a ta fa) (hb : PV X b tb fb) : PV X (.Compare a [.IsNot] [b] pos) (tOp (fun x y H Q => y = .non ∧ Q (.bl (!decide (x = .non))) H) ta tb) (binF (isN true) fa fb) := pv_cmp op_notN notN_ok ha hb (nomark _)

/-! ### chains, and, or, not, if-else, tests -/
def chainF (g g' : Op2) (fa fb fc : EF) : EF := fun env S => (fa env S).bind fun x => (fb env x.2).bind fun y => (g x.1 y.1 y.2).bind fun z => match z.1 with
  | .p (.bool true) => (fc env z.2).bind fun w => g' y.1 w.1 w.2
  | .p (.bool false) => some (.p (.bool false), z.2)
  | _ => none
theorem pv_chain {c : Expr} {tc : TE} {fc : EF} {op op' : CmpOp} {r r' : R2} {g g' : Op2} (ho : OpR X (compareOp op) r) (h : OpOk X.K r g) (ho' : OpR X (compareOp op') r') (h' : OpOk X.K r' g') (ha : PV X a ta fa) (hb : PV X b tb fb) (hc : PV X c tc fc)
    (hm : lastMarks [op, op'] [b, c] = false := by first | rfl | exact nomark _) : PV X (.Compare a [op, op'] [b, c] pos) (tChain r r' ta tb tc) (chainF g g' fa fb fc) := by
  refine ⟨pe_chain ho ho' ha.pe hb.pe hc.pe hm, ?_⟩
  intro σ H A env S v S' he hs hf Q hq
  obtain ⟨⟨x, S1⟩, e1, hf⟩ := Option.bind_eq_some_iff.mp hf
  obtain ⟨⟨y, S2⟩, e2, hf⟩ := Option.bind_eq_some_iff.mp hf
  obtain ⟨⟨z, S3⟩, e3, hf⟩ := Option.bind_eq_some_iff.mp hf
  refine ha.ok σ H A env S x S1 he hs e1 _ fun u H1 A1 p1 k1 s1 r1 => ?_
  refine hb.ok σ H1 A1 env S1 y S2 (he.keep k1 p1) s1 e2 _ fun u2 H2 A2 p2 k2 s2 r2 => ?_
  refine h H2 A2 S2 u u2 x y z S3 s2 (r1.keep k2 p2) r2 e3 _ fun u3 H3 A3 p3 k3 s3 r3 => ?_
  simp only at hf
  split at hf
  · cases r3 with
    | p r3 =>
      cases r3
      refine ⟨true, rfl, ?_⟩
      rw [if_pos rfl]
      obtain ⟨⟨w, S4⟩, e4, hf⟩ := Option.bind_eq_some_iff.mp hf
      refine hc.ok σ H3 A3 env S3 w S4 (he.keep (k1.trans (k2.trans k3)) (p1.trans (p2.trans p3))) s3 e4 _ fun u4 H4 A4 p4 k4 s4 r4 => ?_
      exact h' H4 A4 S4 u2 u4 y w v S' s4 (r2.keep (k3.trans k4) (p3.trans p4)) r4 hf Q fun u5 H5 A5 p5 k5 s5 r5 =>
        hq u5 H5 A5 (p1.trans (p2.trans (p3.trans (p4.trans p5)))) (k1.trans (k2.trans (k3.trans (k4.trans k5)))) s5 r5
  · cases r3 with
    | p r3 =>
      cases r3
      cases hf
      refine ⟨false, rfl, ?_⟩
      rw [if_neg Bool.false_ne_true]
      exact hq _ H3 A3 (p1.trans (p2.trans p3)) (k1.trans (k2.trans k3)) s3 (.p (.bl false))
  · cases hf
def andF (fa fb : EF) : EF := fun env S => (fa env S).bind fun x => match x.1 with
  | .p (.bool true) => fb env x.2
  | .p (.bool false) => some (.p (.bool false), x.2)
  | _ => none
def orF (fa fb : EF) : EF := fun env S => (fa env S).bind fun x => match x.1 with
  | .p (.bool true) => some (.p (.bool true), x.2)
  | .p (.bool false) => fb env x.2
  | _ => none
def notF (fa : EF) : EF := fun env S => (fa env S).bind fun x => match x.1 with
  | .p (.bool c) => some (.p (.bool (!c)), x.2)
  | _ => none
variable {rest : List Expr}
theorem pv_one {op} (h : PV X a ta fa) : PV X (.BoolOp op [a] pos) ta fa := ⟨pe_one h.pe, h.ok⟩
theorem pv_and (ha : PV X a ta fa) (hb : PV X (.BoolOp .And (b :: rest) pos) tb fb) : PV X (.BoolOp .And (a :: b :: rest) pos) (tAndV ta tb) (andF fa fb) := by
  refine ⟨pe_and ha.pe hb.pe, ?_⟩
  intro σ H A env S v S' he hs hf Q hq
  obtain ⟨⟨x, S1⟩, e1, hf⟩ := Option.bind_eq_some_iff.mp hf
  refine ha.ok σ H A env S x S1 he hs e1 _ fun u H1 A1 p1 k1 s1 r1 => ?_
  simp only at hf
  split at hf
  · cases r1 with
    | p r1 =>
      cases r1
      refine ⟨true, rfl, ?_⟩
      rw [if_pos rfl]
      exact hb.ok σ H1 A1 env S1 v S' (he.keep k1 p1) s1 hf Q fun u2 H2 A2 p2 k2 s2 r2 => hq u2 H2 A2 (p1.trans p2) (k1.trans k2) s2 r2
  · cases r1 with
    | p r1 =>
      cases r1; cases hf
      refine ⟨false, rfl, ?_⟩
      rw [if_neg Bool.false_ne_true]
      exact hq _ H1 A1 p1 k1 s1 (.p (.bl false))
  · cases hf
theorem pv_or (ha : PV X a ta fa) (hb : PV X (.BoolOp .Or (b :: rest) pos) tb fb) : PV X (.BoolOp .Or (a :: b :: rest) pos) (tOrV ta tb) (orF fa fb) := by
  refine ⟨pe_or ha.pe hb.pe, ?_⟩
  intro σ H A env S v S' he hs hf Q hq
  obtain ⟨⟨x, S1⟩, e1, hf⟩ := Option.bind_eq_some_iff.mp hf
  refine ha.ok σ H A env S x S1 he hs e1 _ fun u H1 A1 p1 k1 s1 r1 => ?_
  simp only at hf
  split at hf
  · cases r1 with
    | p r1 =>
      cases r1; cases hf
      refine ⟨true, rfl, ?_⟩
      rw [if_pos rfl]
      exact hq _ H1 A1 p1 k1 s1 (.p (.bl true))
  · cases r1 with
    | p r1 =>
      cases r1
      refine ⟨false, rfl, ?_⟩
      rw [if_neg Bool.false_ne_true]
      exact hb.ok σ H1 A1 env S1 v S' (he.keep k1 p1) s1 hf Q fun u2 H2 A2 p2 k2 s2 r2 => hq u2 H2 A2 (p1.trans p2) (k1.trans k2) s2 r2
  · cases hf
theorem pv_not (ha : PV X a ta fa) : PV X (.UnaryOp .Not a pos) (tNotV ta) (notF fa) := by
  refine ⟨pe_not ha.pe, ?_⟩
  intro σ H A env S v S' he hs hf Q hq
  obtain ⟨⟨x, S1⟩, e1, hf⟩ := Option.bind_eq_some_iff.mp hf
  refine ha.ok σ H A env S x S1 he hs e1 _ fun u H1 A1 p1 k1 s1 r1 => ?_
  simp only at hf
  split at hf
  · cases r1 with
    | p r1 =>
      cases r1; cases hf
      exact ⟨_, rfl, hq _ H1 A1 p1 k1 s1 (.p (.bl _))⟩
  · cases hf
/-! as tests -/
def asT (fa : EF) : TF := fun env S => (fa env S).bind fun x => match x.1 with
  | .p (.bool c) => some (c, x.2)
  | _ => none
theorem asT_ok {K : PySem.W.Frag} (h : EOk K ta fa) : TOk K (tB ta) (asT fa) := by
  intro σ H A env S v S' he hs hf Q hq
  obtain ⟨⟨x, S1⟩, e1, hf⟩ := Option.bind_eq_some_iff.mp hf
  refine h σ H A env S x S1 he hs e1 _ fun u H1 A1 p1 k1 s1 r1 => ?_
  simp only at hf
  split at hf
  · cases r1 with
    | p r1 =>
      cases r1; cases hf
      exact ⟨_, rfl, hq H1 A1 p1 k1 s1⟩
  · cases hf
/-- a value that is a bool, as a test (no comparison, and, or, not) -/
theorem pvt_val (h : PV X e te fe) (he : ∀ whole, isTrue e X.env whole = (do let v ← whole; standAt e.pos; holding [v] (truthy v)) := by intro _; rfl) : PVT X e (tB te) (asT fe) := ⟨pt_val h.pe he, asT_ok h.ok⟩
theorem pvt_cmp {op : CmpOp} {r : R2} {g : Op2} (ho : OpR X (compareOp op) r) (h : OpOk X.K r g) (ha : PV X a ta fa) (hb : PV X b tb fb) (hm : behindInMarks op b = false) : PVT X (.Compare a [op] [b] pos) (tB (tOp r ta tb)) (asT (binF g fa fb)) :=
  ⟨pt_cmpR ho ha.pe hb.pe hm, asT_ok (op_ok h ha.ok hb.ok)⟩
end
end Pv
set_option maxHeartbeats 4000000
/-! Pv3: tests, displays, statements, for, while, defs. -/
namespace Pv
open PySem PySem.Spec PyProof.Rows L2

section
variable {X : Cx} {a b e c : Expr} {es rest : List Expr} {ta tb te : TE} {fa fb fe : EF} {pos : Pos} {t u : TT} {f g : TF}
/-! ### tests -/
theorem pvt_chain {tc : TE} {fc : EF} {op op' : CmpOp} {r r' : R2} {g g' : Op2} (ho : OpR X (compareOp op) r) (h : OpOk X.K r g) (ho' : OpR X (compareOp op') r') (h' : OpOk X.K r' g') (ha : PV X a ta fa) (hb : PV X b tb fb) (hc : PV X c tc fc)
    (hm : lastMarks [op, op'] [b, c] = false := by with_unfolding_all rfl) : PVT X (.Compare a [op, op'] [b, c] pos) (tTest (tChain r r' ta tb tc)) (asT (chainF g g' fa fb fc)) :=
  ⟨pt_chain ho ho' ha.pe hb.pe hc.pe hm, asT_ok (pv_chain (pos := pos) ho h ho' h' ha hb hc hm).ok⟩
def andT (f g : TF) : TF := fun env S => (f env S).bind fun x => if x.1 = true then g env x.2 else some (false, x.2)
def orT (f g : TF) : TF := fun env S => (f env S).bind fun x => if x.1 = true then some (true, x.2) else g env x.2
def notT (f : TF) : TF := fun env S => (f env S).map fun x => (!x.1, x.2)
theorem pvw_and1 (h : PVT X a t f) : PVW X (.BoolOp .And [a] pos) t f := ⟨pw_and1 h.pt, h.ok⟩
theorem pvw_or1 (h : PVT X a t f) : PVW X (.BoolOp .Or [a] pos) t f := ⟨pw_or1 h.pt, h.ok⟩
theorem pvw_and (ha : PVT X a t f) (hb : PVW X (.BoolOp .And (b :: rest) pos) u g) : PVW X (.BoolOp .And (a :: b :: rest) pos) (tAnd t u) (andT f g) := by
  refine ⟨pw_and ha.pt hb.pw, ?_⟩
  intro σ H A env S v S' he hs hf Q hq
  obtain ⟨⟨x, S1⟩, e1, hf⟩ := Option.bind_eq_some_iff.mp hf
  refine ha.ok σ H A env S x S1 he hs e1 _ fun H1 A1 p1 k1 s1 => ?_
  cases x with
  | true =>
    rw [if_pos rfl]
    exact hb.ok σ H1 A1 env S1 v S' (he.keep k1 p1) s1 hf Q fun H2 A2 p2 k2 s2 => hq H2 A2 (p1.trans p2) (k1.trans k2) s2
  | false =>
    cases hf
    rw [if_neg Bool.false_ne_true]
    exact hq H1 A1 p1 k1 s1
theorem pvw_or (ha : PVT X a t f) (hb : PVW X (.BoolOp .Or (b :: rest) pos) u g) : PVW X (.BoolOp .Or (a :: b :: rest) pos) (tOr t u) (orT f g) := by
  refine ⟨pw_or ha.pt hb.pw, ?_⟩
  intro σ H A env S v S' he hs hf Q hq
  obtain ⟨⟨x, S1⟩, e1, hf⟩ := Option.bind_eq_some_iff.mp hf
  refine ha.ok σ H A env S x S1 he hs e1 _ fun H1 A1 p1 k1 s1 => ?_
  cases x with
  | true =>
    cases hf
    rw [if_pos rfl]
    exact hq H1 A1 p1 k1 s1
  | false =>
    rw [if_neg Bool.false_ne_true]
    exact hb.ok σ H1 A1 env S1 v S' (he.keep k1 p1) s1 hf Q fun H2 A2 p2 k2 s2 => hq H2 A2 (p1.trans p2) (k1.trans k2) s2
theorem pvt_not (ha : PVT X a t f) : PVT X (.UnaryOp .Not a pos) (tNot t) (notT f) := by
  refine ⟨pt_not ha.pt, ?_⟩
  intro σ H A env S v S' he hs hf Q hq
  obtain ⟨⟨x, S1⟩, e1, hf⟩ := Option.map_eq_some_iff.mp hf
  cases hf
  exact ha.ok σ H A env S x S1 he hs e1 _ hq
def ifF (f : TF) (fa fb : EF) : EF := fun env S => (f env S).bind fun x => if x.1 = true then fa env x.2 else fb env x.2
theorem pv_if (hc : PVT X c t f) (ha : PV X a ta fa) (hb : PV X b tb fb) : PV X (.IfExp c a b pos) (tIf t ta tb) (ifF f fa fb) := by
  refine ⟨pe_ifExp hc.pt ha.pe hb.pe, ?_⟩
  intro σ H A env S v S' he hs hf Q hq
  obtain ⟨⟨x, S1⟩, e1, hf⟩ := Option.bind_eq_some_iff.mp hf
  refine hc.ok σ H A env S x S1 he hs e1 _ fun H1 A1 p1 k1 s1 => ?_
  cases x with
  | true =>
    rw [if_pos rfl]
    exact ha.ok σ H1 A1 env S1 v S' (he.keep k1 p1) s1 hf Q fun u2 H2 A2 p2 k2 s2 r2 => hq u2 H2 A2 (p1.trans p2) (k1.trans k2) s2 r2
  | false =>
    rw [if_neg Bool.false_ne_true]
    exact hb.ok σ H1 A1 env S1 v S' (he.keep k1 p1) s1 hf Q fun u2 H2 A2 p2 k2 s2 r2 => hq u2 H2 A2 (p1.trans p2) (k1.trans k2) s2 r2

/-! ### argument lists, displays -/
variable {tA : TA} {fA : AF}
def nilF : AF := fun _ S => some ([], S)
def consF (f : EF) (g : AF) : AF := fun env S => (f env S).bind fun x => (g env x.2).map fun y => (x.1 :: y.1, y.2)
theorem pva_nil : PVA X [] tNil nilF := ⟨pa_nil, fun σ H A env S r S' he hs h Q hq => by cases h; exact hq [] H A (Pre.refl A) (Keep.refl H) hs .nil⟩
theorem pva_cons (ha : PV X e te fe) (hr : PVA X es tA fA) (hs : starEach (e :: es) X.env = (false, eval e X.env) :: starEach es X.env := by rfl) : PVA X (e :: es) (tCons te tA) (consF fe fA) := by
  refine ⟨pa_cons ha.pe hr.pa hs, ?_⟩
  intro σ H A env S v S' he hs hf Q hq
  obtain ⟨⟨x, S1⟩, e1, hf⟩ := Option.bind_eq_some_iff.mp hf
  obtain ⟨⟨y, S2⟩, e2, hf⟩ := Option.map_eq_some_iff.mp hf
  cases hf
  refine ha.ok σ H A env S x S1 he hs e1 _ fun u H1 A1 p1 k1 s1 r1 => ?_
  exact hr.ok σ H1 A1 env S1 y S2 (he.keep k1 p1) s1 e2 _ fun us H2 A2 p2 k2 s2 r2 => hq _ H2 A2 (p1.trans p2) (k1.trans k2) s2 (.cons (r1.keep k2 p2) r2)
/-- all data -/
def allP : List T → Option (List D)
  | [] => some []
  | .p d :: ts => (allP ts).map fun ds => d :: ds
  | _ :: _ => none
theorem allP_ok {K : PySem.W.Frag} {H : Hp} {A : List Addr} : ∀ {ts : List T} {ds : List D} {vs : List V}, allP ts = some ds → Rts K H A vs ts → Rps K H vs ds
  | [], _, _, h, r => by cases h; cases r; exact .nil
  | .p d :: ts, _, _, h, r => by
    obtain ⟨ds, e, h⟩ := Option.map_eq_some_iff.mp h
    subst h
    cases r with
    | cons a b => cases a with
      | p a => exact .cons a (allP_ok e b)
  | .loc _ :: ts, _, _, h, r => nomatch h
  | .mix _ :: ts, _, _, h, r => nomatch h
  | .ro _ :: ts, _, _, h, r => nomatch h
  | .ft _ :: ts, _, _, h, r => nomatch h
theorem allP_p : ∀ ds : List D, allP (ds.map T.p) = some ds
  | [] => rfl
  | d :: ds => by show (allP (ds.map T.p)).map _ = _; rw [allP_p ds]; rfl
def tupT (ts : List T) : T := match allP ts with
  | some ds => .p (.tuple ds)
  | none => .mix ts
def tupF (f : AF) : EF := fun env S => (f env S).bind fun x => if x.1.length ≤ sizeLine then some (tupT x.1, x.2) else none
theorem pv_tup {x1} (h : PVA X es tA fA) : PV X (.Tuple es x1 pos) (tTup tA) (tupF fA) := by
  refine ⟨pe_tup h.pa, ?_⟩
  intro σ H A env S v S' he hs hf Q hq
  obtain ⟨⟨x, S1⟩, e1, hf⟩ := Option.bind_eq_some_iff.mp hf
  simp only at hf
  split at hf
  · next hz =>
    cases hf
    refine h.ok σ H A env S x _ he hs e1 _ fun us H1 A1 p1 k1 s1 r1 => ⟨by rw [r1.length]; exact hz, fun p hp => ?_⟩
    refine hq _ _ A1 p1 (k1.trans (Keep.new hp)) (s1.new hp) ?_
    unfold tupT
    split
    · next ds q => exact .p (.tup (SqT.of upd_same) ((allP_ok q r1).keep (Keep.new hp)))
    · exact .mix (SqT.of upd_same) (r1.keep (Keep.new hp) (Pre.refl A1))
  · cases hf
def lstF (f : AF) : EF := fun env S => (f env S).bind fun x => match allP x.1 with
  | some ds => if ds.length ≤ sizeLine then some (.loc x.2.length, x.2 ++ [.lst ds]) else none
  | none => none
theorem pv_lst (h : PVA X es tA fA) : PV X (.List es pos) (tLst tA) (lstF fA) := by
  refine ⟨pe_lst h.pa, ?_⟩
  intro σ H A env S v S' he hs hf Q hq
  obtain ⟨⟨x, S1⟩, e1, hf⟩ := Option.bind_eq_some_iff.mp hf
  simp only at hf
  split at hf
  · next ds q =>
    split at hf
    · next hz =>
      cases hf
      refine h.ok σ H A env S x _ he hs e1 _ fun us H1 A1 p1 k1 s1 r1 => ?_
      have r2 := allP_ok q r1
      refine ⟨by rw [r2.length]; exact hz, fun p hp => ?_⟩
      exact hq _ _ _ (p1.trans (Pre.app A1 [p])) (k1.trans (Keep.new hp)) (s1.newL hp r2) s1.numL
    · cases hf
  · cases hf

/-! ### what is no longer needed -/
mutual
def below (n : Nat) : T → Bool
  | .p _ => true
  | .ro _ => true
  | .ft _ => true
  | .loc k => decide (k < n)
  | .mix ts => belows n ts
def belows (n : Nat) : List T → Bool
  | [] => true
  | t :: ts => below n t && belows n ts
end
mutual
theorem Rt.low {K : PySem.W.Frag} {H : Hp} {A A' : List Addr} {n : Nat} (q : SameTo n A A') : ∀ {v : V} {t : T}, Rt K H A v t → below n t = true → Rt K H A' v t
  | _, _, .p r, _ => .p r
  | _, _, .ro s r, _ => .ro s r
  | _, _, .ft s d r, _ => .ft s d r
  | _, _, .loc e, h => .loc (q _ _ (by simpa [below] using h) e)
  | _, _, .mix s r, h => .mix s (Rts.low q r (by simpa [below] using h))
theorem Rts.low {K : PySem.W.Frag} {H : Hp} {A A' : List Addr} {n : Nat} (q : SameTo n A A') : ∀ {v : List V} {t : List T}, Rts K H A v t → belows n t = true → Rts K H A' v t
  | _, _, .nil, _ => .nil
  | _, _, .cons a b, h => by
    have h' := (Bool.and_eq_true_iff.mp (show (below n _ && belows n _) = true from h))
    exact .cons (Rt.low q a h'.1) (Rts.low q b h'.2)
end
def keepSlot (n : Nat) (t : Option T) : Option T := match t with
  | some t => if below n t = true then some t else none
  | none => none
def forget (n : Nat) (env : Env) : Env := env.map (keepSlot n)
theorem RE.low {K : PySem.W.Frag} {H : Hp} {A A' : List Addr} {n : Nat} (q : SameTo n A A') {σ : L2.St} {env : Env} (h : RE K H A σ env) : RE K H A' σ (forget n env) := by
  refine ⟨by simp [forget, h.1], fun i t e => ?_⟩
  unfold forget at e
  rw [List.getElem?_map] at e
  cases g : env[i]? with
  | none => rw [g] at e; cases e
  | some s =>
    rw [g] at e
    have e' : keepSlot n s = some t := Option.some.inj e
    cases s with
    | none => cases e'
    | some t' =>
      unfold keepSlot at e'
      simp only at e'
      split at e'
      · cases e'
        obtain ⟨v, h1, h2⟩ := h.2 i _ g
        exact ⟨v, h1, h2.low q (by assumption)⟩
      · cases e'
theorem sameTake {A : List Addr} (n : Nat) : SameTo n A (A.take n) := fun i a hi e => by rw [List.getElem?_take_of_lt hi]; exact e
theorem preTake {A A' : List Addr} (p : Pre A A') : Pre A (A'.take A.length) := fun i a e => by
  rw [List.getElem?_take_of_lt (List.getElem?_eq_some_iff.mp e).1]; exact p i a e

/-! the objects that a value still needs, put behind the first n -/
def gcT (n m : Nat) : T → List Nat → Option (T × List Nat)
  | .p d, u => some (.p d, u)
  | .ro xs, u => some (.ro xs, u)
  | .ft xs, u => some (.ft xs, u)
  | .loc k, u => if k < n then some (.loc k, u) else if k < m ∧ k ∉ u then some (.loc (n + u.length), u ++ [k]) else none
  | .mix ts, u => if belows n ts = true then some (.mix ts, u) else none
def gcTs (n m : Nat) : List T → List Nat → Option (List T × List Nat)
  | [], u => some ([], u)
  | t :: ts, u => (gcT n m t u).bind fun x => (gcTs n m ts x.2).map fun y => (x.1 :: y.1, y.2)
def gcOb (n : Nat) (S : Sto) (u : List Nat) : Sto := S.take n ++ u.map fun k => S.getD k (.lst [])
def gcV (n : Nat) (v : T) (S : Sto) : Option (T × Sto) := match v with
  | .p d => some (.p d, S.take n)
  | .mix ts => (gcTs n S.length ts []).map fun x => (.mix x.1, gcOb n S x.2)
  | v => (gcT n S.length v []).map fun x => (x.1, gcOb n S x.2)
def gcA (n : Nat) (A : List Addr) (u : List Nat) : List Addr := A.take n ++ u.map fun k => A.getD k 0
theorem gcA_same {n : Nat} {A : List Addr} (hn : n ≤ A.length) (u : List Nat) : SameTo n A (gcA n A u) := fun i a hi e => by
  unfold gcA
  rw [List.getElem?_append_left (by rw [List.length_take]; omega), List.getElem?_take_of_lt hi]
  exact e
structure GcU (n m : Nat) (u : List Nat) : Prop where
  nd : u.Nodup
  lo : ∀ k ∈ u, n ≤ k ∧ k < m
theorem gcRS {K : PySem.W.Frag} {H : Hp} {A : List Addr} {S : Sto} (hs : RS K H A S) {n : Nat} (hn : n ≤ S.length) {u : List Nat} (hu : GcU n S.length u) : RS K H (gcA n A u) (gcOb n S u) := by
  have hl := hs.len
  have idx : ∀ {i : Nat}, i < A.length → ∃ a, A[i]? = some a ∧ A.getD i 0 = a := fun {i} hi => ⟨A[i], List.getElem?_eq_getElem hi, by simp [List.getD, List.getElem?_eq_getElem hi]⟩
  have injA : ∀ {i j : Nat}, i < A.length → j < A.length → A.getD i 0 = A.getD j 0 → i = j := fun {i j} hi hj e => by
    refine (List.getElem?_inj hi hs.nd).mp ?_
    obtain ⟨x, e1, e2⟩ := idx hi
    obtain ⟨y, e3, e4⟩ := idx hj
    rw [e1, e3, ← e2, ← e4, e]
  refine ⟨by simp [gcA, gcOb, hl], ?_, fun i a o e q => ?_⟩
  · unfold gcA
    rw [List.nodup_append]
    refine ⟨hs.nd.sublist (List.take_sublist _ _), ?_, fun a ha b hb e => ?_⟩
    · rw [List.nodup_iff_pairwise_ne, List.pairwise_map]
      refine List.Pairwise.imp_of_mem (fun {x y} hx hy ne e => ne (injA (hl ▸ (hu.lo x hx).2) (hl ▸ (hu.lo y hy).2) e)) (List.nodup_iff_pairwise_ne.mp hu.nd)
    · obtain ⟨i, hi⟩ := List.getElem?_of_mem ha
      obtain ⟨k, hk, e2⟩ := List.mem_map.mp hb
      have h1 : i < n := by
        have := (List.getElem?_eq_some_iff.mp hi).1
        rw [List.length_take] at this; omega
      rw [List.getElem?_take_of_lt h1] at hi
      have hiA := (List.getElem?_eq_some_iff.mp hi).1
      have : i = k := injA hiA (hl ▸ (hu.lo k hk).2) (by
        rw [e2, ← e]
        simp [List.getD, hi])
      have := (hu.lo k hk).1
      omega
  · unfold gcA at e
    unfold gcOb at q
    have lA : (A.take n).length = n := by rw [List.length_take]; omega
    have lS : (S.take n).length = n := by rw [List.length_take]; omega
    by_cases hi : i < n
    · rw [List.getElem?_append_left (by omega), List.getElem?_take_of_lt hi] at e
      rw [List.getElem?_append_left (by omega), List.getElem?_take_of_lt hi] at q
      exact hs.ob i a o e q
    · rw [List.getElem?_append_right (by omega), lA, List.getElem?_map] at e
      rw [List.getElem?_append_right (by omega), lS, List.getElem?_map] at q
      cases g : u[i - n]? with
      | none => rw [g] at e; cases e
      | some k =>
        rw [g] at e q
        have hk := hu.lo k (List.mem_of_getElem? g)
        have e' : A.getD k 0 = a := Option.some.inj e
        have q' : S.getD k (.lst []) = o := Option.some.inj q
        obtain ⟨x, e1, e2⟩ := idx (hl ▸ hk.2)
        rw [e2] at e'; subst e'
        refine hs.ob k x o e1 ?_
        rw [List.getElem?_eq_getElem hk.2]
        rw [← q']
        simp [List.getD, List.getElem?_eq_getElem hk.2]
theorem gcT_ok {K : PySem.W.Frag} {H : Hp} {A : List Addr} {S : Sto} (hs : RS K H A S) {n : Nat} (hn : n ≤ S.length) {v : V} {t t' : T} {u u' : List Nat} (hu : GcU n S.length u) (r : Rt K H A v t) (h : gcT n S.length t u = some (t', u')) :
    GcU n S.length u' ∧ (∃ w, u' = u ++ w) ∧ ∀ w, Rt K H (gcA n A (u' ++ w)) v t' := by
  have hl := hs.len
  cases r with
  | p r => cases h; exact ⟨hu, ⟨[], by simp⟩, fun w => .p r⟩
  | ro s r => cases h; exact ⟨hu, ⟨[], by simp⟩, fun w => .ro s r⟩
  | ft s d r => cases h; exact ⟨hu, ⟨[], by simp⟩, fun w => .ft s d r⟩
  | mix s r =>
    simp only [gcT] at h
    split at h
    · next hb =>
      cases h
      exact ⟨hu, ⟨[], by simp⟩, fun w => .mix s (Rts.low (gcA_same (by omega) _) r hb)⟩
    · cases h
  | @loc k a e =>
    simp only [gcT] at h
    split at h
    · next hk =>
      cases h
      exact ⟨hu, ⟨[], by simp⟩, fun w => .loc (gcA_same (by omega) _ k _ hk e)⟩
    · next hk =>
      split at h
      · next hc =>
        cases h
        refine ⟨⟨?_, fun j hj => ?_⟩, ⟨[k], rfl⟩, fun w => .loc ?_⟩
        · rw [List.nodup_append]
          exact ⟨hu.nd, by simp, fun x hx y hy e9 => by
            have : y = k := by simpa using hy
            subst this; subst e9; exact hc.2 hx⟩
        · rcases List.mem_append.mp hj with hj | hj
          · exact hu.lo j hj
          · have : j = k := by simpa using hj
            subst this; omega
        · unfold gcA
          have lA : (A.take n).length = n := by rw [List.length_take]; omega
          rw [List.getElem?_append_right (by omega), lA, List.getElem?_map, List.append_assoc, Nat.add_sub_cancel_left, List.getElem?_append_right (Nat.le_refl _)]
          simp [List.getD, e]
      · cases h
theorem gcTs_ok {K : PySem.W.Frag} {H : Hp} {A : List Addr} {S : Sto} (hs : RS K H A S) {n : Nat} (hn : n ≤ S.length) : ∀ {vs : List V} {ts ts' : List T} {u u' : List Nat} (hu : GcU n S.length u) (r : Rts K H A vs ts) (h : gcTs n S.length ts u = some (ts', u')),
    GcU n S.length u' ∧ (∃ w, u' = u ++ w) ∧ ∀ w, Rts K H (gcA n A (u' ++ w)) vs ts'
  | _, [], _, _, _, hu, r, h => by cases h; cases r; exact ⟨hu, ⟨[], by simp⟩, fun w => .nil⟩
  | _, t :: ts, _, _, _, hu, r, h => by
    cases r with
    | cons r1 r2 =>
      obtain ⟨⟨x, u1⟩, e1, h⟩ := Option.bind_eq_some_iff.mp h
      obtain ⟨⟨y, u2⟩, e2, h⟩ := Option.map_eq_some_iff.mp h
      cases h
      obtain ⟨g1, ⟨w1, rfl⟩, q1⟩ := gcT_ok hs hn hu r1 e1
      obtain ⟨g2, ⟨w2, rfl⟩, q2⟩ := gcTs_ok hs hn g1 r2 e2
      exact ⟨g2, ⟨w1 ++ w2, by simp⟩, fun w => .cons (by have := q1 (w2 ++ w); rwa [← List.append_assoc] at this) (q2 w)⟩
theorem gc_ok {K : PySem.W.Frag} {H : Hp} {A : List Addr} {S S' : Sto} (hs : RS K H A S) {n : Nat} (hn : n ≤ S.length) {v : V} {t t' : T} (r : Rt K H A v t) (h : gcV n t S = some (t', S')) :
    ∃ A', SameTo n A A' ∧ RS K H A' S' ∧ Rt K H A' v t' := by
  have h0 : GcU n S.length [] := ⟨by simp, fun _ h => by simp at h⟩
  cases r with
  | p r => cases h; exact ⟨A.take n, sameTake n, hs.take n, .p r⟩
  | mix s r =>
    obtain ⟨⟨x, u⟩, e, h⟩ := Option.map_eq_some_iff.mp h
    cases h
    obtain ⟨g, _, q⟩ := gcTs_ok hs hn h0 r e
    exact ⟨gcA n A u, gcA_same (by rw [hs.len]; exact hn) u, gcRS hs hn g, .mix s (by have := q []; rwa [List.append_nil] at this)⟩
  | ro s r =>
    have h : (gcT n S.length (.ro _) []).map (fun x => (x.1, gcOb n S x.2)) = some (t', S') := h
    obtain ⟨⟨x, u⟩, e, h⟩ := Option.map_eq_some_iff.mp h
    cases h
    cases e
    exact ⟨gcA n A [], gcA_same (by rw [hs.len]; exact hn) [], gcRS hs hn h0, .ro s r⟩
  | ft s d r =>
    have h : (gcT n S.length (.ft _) []).map (fun x => (x.1, gcOb n S x.2)) = some (t', S') := h
    obtain ⟨⟨x, u⟩, e, h⟩ := Option.map_eq_some_iff.mp h
    cases h
    cases e
    exact ⟨gcA n A [], gcA_same (by rw [hs.len]; exact hn) [], gcRS hs hn h0, .ft s d r⟩
  | loc e1 =>
    have h : (gcT n S.length (.loc _) []).map (fun x => (x.1, gcOb n S x.2)) = some (t', S') := h
    obtain ⟨⟨x, u⟩, e, h⟩ := Option.map_eq_some_iff.mp h
    cases h
    obtain ⟨g, _, q⟩ := gcT_ok hs hn h0 (.loc e1 : Rt K H A _ _) e
    exact ⟨gcA n A u, gcA_same (by rw [hs.len]; exact hn) u, gcRS hs hn g, by have := q []; rwa [List.append_nil] at this⟩
end
end Pv
set_option maxHeartbeats 4000000
/-! Pv4: statements, for, while, defs and their calls. -/
namespace Pv
open PySem PySem.Spec PyProof.Rows L2

section
variable {X : Cx} {a b e c : Expr} {es rest : List Expr} {ta tb te : TE} {fa fb fe : EF} {pos : Pos} {t : TT} {f : TF} {ts us : TS} {s1 s2 : SF} {st : Stmt} {sts : List Stmt}

theorem EndOk.sub {K : PySem.W.Frag} {H : Hp} {A : List Addr} {o : Out} {env : Env} {D D' : Ends} (h : EndOk K H A o env D) (h1 : ∀ σ, D.nx σ H → D'.nx σ H) (h2 : ∀ v, D.rt v H → D'.rt v H) (h3 : ∀ σ, D.bk σ H → D'.bk σ H) (h4 : ∀ σ, D.ct σ H → D'.ct σ H) : EndOk K H A o env D' := by
  cases o with
  | nx => exact fun σ r => h1 σ (h σ r)
  | bk => exact fun σ r => h3 σ (h σ r)
  | ct => exact fun σ r => h4 σ (h σ r)
  | rt r => exact fun v q => h2 v (h v q)

/-! ### blocks -/
def nextS : SF := fun _ env S => some (.nx, env, S)
def seqS (f g : SF) : SF := fun n env S => (f n env S).bind fun x => match x.1 with
  | .nx => g n x.2.1 x.2.2
  | o => some (o, x.2.1, x.2.2)
theorem pvb_nil : PVB X [] tNext nextS := ⟨pss_nil, fun n σ H A env S o env' S' hn he hs h D hD => by cases h; exact hD H A (Pre.refl A |>.sameTo n) (Keep.refl H) hs σ he⟩
theorem pvb_cons (h1 : PVS X st ts s1) (h2 : PVB X sts us s2) : PVB X (st :: sts) (tSeq ts us) (seqS s1 s2) := by
  refine ⟨pss_cons h1.ps h2.ps, ?_⟩
  intro n σ H A env S o env' S' hn he hs hf D hD
  obtain ⟨⟨o1, env1, S1⟩, e1, hf⟩ := Option.bind_eq_some_iff.mp hf
  refine h1.ok n σ H A env S o1 env1 S1 hn he hs e1 _ fun H1 A1 p1 k1 r1 => ?_
  cases o1 with
  | nx =>
    intro σ1 he1
    refine h2.ok n σ1 H1 A1 env1 S1 o env' S' ?_ he1 r1 hf D fun H2 A2 p2 k2 r2 => hD H2 A2 (p1.trans p2) (k1.trans k2) r2
    rw [← r1.len]
    exact p1.le (by rw [hs.len]; exact hn)
  | bk => cases hf; exact fun σ1 he1 => hD H1 A1 p1 k1 r1 σ1 he1
  | ct => cases hf; exact fun σ1 he1 => hD H1 A1 p1 k1 r1 σ1 he1
  | rt r => cases hf; exact fun v q => hD H1 A1 p1 k1 r1 v q
theorem pvb_one (h1 : PVS X st ts s1) : PVB X [st] ts s1 := ⟨pss_one h1.ps, h1.ok⟩
def breakS : SF := fun _ env S => some (.bk, env, S)
def contS : SF := fun _ env S => some (.ct, env, S)
theorem pvs_pass : PVS X (.Pass pos) tNext nextS := ⟨ps_pass, pvb_nil.ok⟩
theorem pvs_break : PVS X (.Break pos) tBreak breakS := ⟨ps_break, fun n σ H A env S o env' S' hn he hs h D hD => by cases h; exact hD H A (Pre.refl A |>.sameTo n) (Keep.refl H) hs σ he⟩
theorem pvs_cont : PVS X (.Continue pos) tCont contS := ⟨ps_continue, fun n σ H A env S o env' S' hn he hs h D hD => by cases h; exact hD H A (Pre.refl A |>.sameTo n) (Keep.refl H) hs σ he⟩

/-! ### small statements -/
def exprS (f : EF) : SF := fun _ env S => (f env S).map fun x => (.nx, env, x.2.take S.length)
theorem pvs_expr (h : PV X e te fe) (hs : swapsWith e none pos.line X.env = pure false := by rfl) : PVS X (.Expr e pos) (tDrop te) (exprS fe) := by
  refine ⟨ps_expr h.pe hs, ?_⟩
  intro n σ H A env S o env' S' hn he hs hf D hD
  obtain ⟨⟨x, S1⟩, e1, hf⟩ := Option.map_eq_some_iff.mp hf
  cases hf
  refine h.ok σ H A env S x S1 he hs e1 _ fun u H1 A1 p1 k1 r1 q1 => ?_
  have p2 : Pre A (A1.take S.length) := by rw [← hs.len]; exact preTake p1
  exact hD H1 _ (p2.sameTo n) k1 (r1.take S.length) σ (he.keep k1 p2)
def retS (f : EF) : SF := fun _ env S => (f env S).map fun x => (.rt x.1, env, x.2)
theorem pvs_ret (h : PV X e te fe) : PVS X (.Return (some e) pos) (tRet te) (retS fe) := by
  refine ⟨ps_ret h.pe, ?_⟩
  intro n σ H A env S o env' S' hn he hs hf D hD
  obtain ⟨⟨x, S1⟩, e1, hf⟩ := Option.map_eq_some_iff.mp hf
  cases hf
  exact h.ok σ H A env S x S1 he hs e1 _ fun u H1 A1 p1 k1 r1 q1 => hD H1 A1 (p1.sameTo n) k1 r1 u q1
def ifS (f : TF) (s1 s2 : SF) : SF := fun n env S => (f env S).bind fun x => if x.1 = true then s1 n env (x.2.take S.length) else s2 n env (x.2.take S.length)
theorem pvs_if {bo el : List Stmt} (hc : PVT X c t f) (h1 : PVB X bo ts s1) (h2 : PVB X el us s2) : PVS X (.If c bo el pos) (tIfS t ts us) (ifS f s1 s2) := by
  refine ⟨ps_if hc.pt h1.ps h2.ps, ?_⟩
  intro n σ H A env S o env' S' hn he hs hf D hD
  obtain ⟨⟨x, S1⟩, e1, hf⟩ := Option.bind_eq_some_iff.mp hf
  refine hc.ok σ H A env S x S1 he hs e1 _ fun H1 A1 p1 k1 r1 => ?_
  have p2 : Pre A (A1.take S.length) := by rw [← hs.len]; exact preTake p1
  have l2 : n ≤ (S1.take S.length).length := by
    have := p1.len
    rw [hs.len, r1.len] at this
    rw [List.length_take]; omega
  cases x with
  | true =>
    rw [if_pos rfl]
    exact h1.ok n σ H1 _ env _ o env' S' l2 (he.keep k1 p2) (r1.take S.length) hf D fun H2 A2 p3 k2 r2 => hD H2 A2 ((p2.sameTo n).trans p3) (k1.trans k2) r2
  | false =>
    rw [if_neg Bool.false_ne_true]
    exact h2.ok n σ H1 _ env _ o env' S' l2 (he.keep k1 p2) (r1.take S.length) hf D fun H2 A2 p3 k2 r2 => hD H2 A2 ((p2.sameTo n).trans p3) (k1.trans k2) r2

/-! ### targets -/
abbrev GF := T → Env → Sto → Option (Env × Sto)
abbrev GFs := List T → Env → Sto → Option (Env × Sto)
def GOk (K : PySem.W.Frag) (g : TG) (f : GF) : Prop := ∀ (σ : L2.St) (H : Hp) (A : List Addr) (env : Env) (S : Sto) (v : V) (x : T) (env' : Env) (S' : Sto), RE K H A σ env → RS K H A S → Rt K H A v x → f x env S = some (env', S') →
  ∀ Q : L2.St → Hp → Prop, (∀ σ' H' A', Pre A A' → Keep H H' → RS K H' A' S' → RE K H' A' σ' env' → Q σ' H') → g v σ H Q
def GsOk (K : PySem.W.Frag) (g : TGs) (f : GFs) : Prop := ∀ (σ : L2.St) (H : Hp) (A : List Addr) (env : Env) (S : Sto) (v : List V) (x : List T) (env' : Env) (S' : Sto), RE K H A σ env → RS K H A S → Rts K H A v x → f x env S = some (env', S') →
  ∀ Q : L2.St → Hp → Prop, (∀ σ' H' A', Pre A A' → Keep H H' → RS K H' A' S' → RE K H' A' σ' env' → Q σ' H') → g v σ H Q
structure PVG (X : Cx) (e : Expr) (g : TG) (f : GF) : Prop where
  pg : PG X e g
  ok : GOk X.K g f
structure PVGs (X : Cx) (e : List Expr) (g : TGs) (f : GFs) : Prop where
  pg : PGs X e g
  ok : GsOk X.K g f
def nameG (i : Nat) : GF := fun v env S => some (env.set i (some v), S)
theorem pvg_name (i : Nat) {x : Str} (hN : X.N.Nodup) (hi : X.N[i]? = some x := by rfl) (hx : Loc X.env.scope x := by exact Or.inl rfl) (hf : X.fn x = true ∨ X.env.scope.names.lookup x = some .local := by first | exact .inl rfl | exact .inr rfl | assumption) : PVG X (.Name x pos) (gName i) (nameG i) := by
  refine ⟨pg_name hN hi hx hf, ?_⟩
  intro σ H A env S v x env' S' he hs r h Q hq
  cases h
  exact hq _ H A (Pre.refl A) (Keep.refl H) hs (he.set r i)
def nilG : GFs := fun v env S => match v with
  | [] => some (env, S)
  | _ => none
def consG (g : GF) (h : GFs) : GFs := fun v env S => match v with
  | [] => none
  | x :: xs => (g x env S).bind fun y => h xs y.1 y.2
theorem pvg_nil : PVGs X [] gNil nilG := by
  refine ⟨pgs_nil, ?_⟩
  intro σ H A env S v x env' S' he hs r h Q hq
  cases r with
  | nil => cases h; exact ⟨rfl, hq σ H A (Pre.refl A) (Keep.refl H) hs he⟩
  | cons a b => cases h
theorem pvg_cons {g : TG} {gs : TGs} {k : GF} {ks : GFs} (h1 : PVG X e g k) (h2 : PVGs X es gs ks) (hs : (assignEach (e :: es) X.env).map (·.2) = assign e X.env :: (assignEach es X.env).map (·.2) := by rfl) : PVGs X (e :: es) (gCons g gs) (consG k ks) := by
  refine ⟨pgs_cons h1.pg h2.pg hs, ?_⟩
  intro σ H A env S v x env' S' he hs r h Q hq
  cases r with
  | nil => cases h
  | @cons v vs t ts a b =>
    obtain ⟨⟨env1, S1⟩, e1, h⟩ := Option.bind_eq_some_iff.mp h
    refine ⟨v, vs, rfl, h1.ok σ H A env S v t env1 S1 he hs a e1 _ fun σ1 H1 A1 p1 k1 s1 r1 => ?_⟩
    exact h2.ok σ1 H1 A1 env1 S1 vs ts env' S' r1 s1 (b.keep k1 p1) h Q fun σ2 H2 A2 p2 k2 s2 r2 => hq σ2 H2 A2 (p1.trans p2) (k1.trans k2) s2 r2
def tupG (n : Nat) (g : GFs) : GF := fun v env S => match v with
  | .p (.tuple ds) => if ds.length = n then g (ds.map T.p) env S else none
  | .mix ts => if ts.length = n then g ts env S else none
  | _ => none
theorem Rps.rts {K : PySem.W.Frag} {H : Hp} {A : List Addr} : ∀ {vs : List V} {ds : List D}, Rps K H vs ds → Rts K H A vs (ds.map T.p)
  | _, _, .nil => .nil
  | _, _, .cons a b => .cons (.p a) (Rps.rts b)
theorem pvg_tup {k : Nat} {g : TGs} {ks : GFs} {n : Nat} (hc : X.calm = true) (h : PVGs X es g ks) (hn : (assignEach es X.env).length = n := by rfl) (hst : (assignEach es X.env).findIdx? (·.1) = none := by rfl) : PVG X (.Tuple es k pos) (gTup X.K n g) (tupG n ks) := by
  refine ⟨pg_tup hc h.pg hn hst, ?_⟩
  intro σ H A env S v x env' S' he hs r h' Q hq
  unfold tupG at h'
  split at h'
  · split at h'
    · next hl =>
      obtain ⟨a, vs, rfl, s, r⟩ := r.tupOf
      exact ⟨a, vs, rfl, s, by rw [r.length]; exact hl, h.ok σ H A env S vs _ env' S' he hs r.rts h' Q hq⟩
    · cases h'
  · split at h'
    · next hl =>
      cases r with
      | mix s r => exact ⟨_, _, rfl, s, by rw [r.length]; exact hl, h.ok σ H A env S _ _ env' S' he hs r h' Q hq⟩
    · cases h'
  · cases h'
/-- target = value -/
def asgS (f : EF) (g : GF) : SF := fun _ env S => (f env S).bind fun x => (gcV S.length x.1 x.2).bind fun y => (g y.1 env y.2).map fun z => (.nx, z.1, z.2)
theorem pvs_asg {tg : Expr} {g : TG} {k : GF} (he : PV X e te fe) (hg : PVG X tg g k) (hs : swapsWithSole [tg] e pos.line X.env = pure false := by rfl) (hw : swappedStores [tg] e X.env = pure none := by rfl)
    (h1 : (assignEach [tg] X.env).map (·.2) = [assign tg X.env] := by rfl) : PVS X (.Assign [tg] e pos) (tAsg te g) (asgS fe k) := by
  refine ⟨ps_asg he.pe hg.pg hs hw h1, ?_⟩
  intro n σ H A env S o env' S' hn hE hS hf D hD
  obtain ⟨⟨x, S1⟩, e1, hf⟩ := Option.bind_eq_some_iff.mp hf
  obtain ⟨⟨y, S2⟩, e2, hf⟩ := Option.bind_eq_some_iff.mp hf
  obtain ⟨⟨env3, S3⟩, e3, hf⟩ := Option.map_eq_some_iff.mp hf
  cases hf
  refine he.ok σ H A env S x S1 hE hS e1 _ fun u H1 A1 p1 k1 r1 q1 => ?_
  have l1 : S.length ≤ S1.length := by have := p1.len; rw [hS.len, r1.len] at this; exact this
  obtain ⟨A2, p2, r2, q2⟩ := gc_ok r1 l1 q1 e2
  have pA : Pre A A2 := fun i a e => p2 i a (by rw [← hS.len]; exact (List.getElem?_eq_some_iff.mp e).1) (p1 i a e)
  exact hg.ok σ H1 A2 env S2 u y _ _ (hE.keep k1 pA) r2 q2 e3 _ fun σ3 H3 A3 p3 k3 r3 q3 => hD H3 A3 ((pA.trans p3).sameTo n) (k1.trans k3) r3 σ3 q3
/-! a name that held an object of the def's own takes the new one in its place -/
mutual
def noLoc (k : Nat) : T → Bool
  | .p _ => true
  | .ro _ => true
  | .ft _ => true
  | .loc m => decide (m ≠ k)
  | .mix ts => noLocs k ts
def noLocs (k : Nat) : List T → Bool
  | [] => true
  | t :: ts => noLoc k t && noLocs k ts
end
mutual
theorem Rt.without {K : PySem.W.Frag} {H : Hp} {A A' : List Addr} {k : Nat} (q : ∀ (i : Nat) (a : Addr), i ≠ k → A[i]? = some a → A'[i]? = some a) : ∀ {v : V} {t : T}, Rt K H A v t → noLoc k t = true → Rt K H A' v t
  | _, _, .p r, _ => .p r
  | _, _, .ro s r, _ => .ro s r
  | _, _, .ft s d r, _ => .ft s d r
  | _, _, .loc e, h => .loc (q _ _ (by simpa [noLoc] using h) e)
  | _, _, .mix s r, h => .mix s (Rts.without q r (by simpa [noLoc] using h))
theorem Rts.without {K : PySem.W.Frag} {H : Hp} {A A' : List Addr} {k : Nat} (q : ∀ (i : Nat) (a : Addr), i ≠ k → A[i]? = some a → A'[i]? = some a) : ∀ {v : List V} {t : List T}, Rts K H A v t → noLocs k t = true → Rts K H A' v t
  | _, _, .nil, _ => .nil
  | _, _, .cons a b, h => by
    have h' := (Bool.and_eq_true_iff.mp (show (noLoc k _ && noLocs k _) = true from h))
    exact .cons (Rt.without q a h'.1) (Rts.without q b h'.2)
end
/-- no other slot holds that object -/
def lone (i k : Nat) (env : Env) : Bool := (List.range env.length).all fun j => decide (j = i) || match env[j]? with
  | some (some t) => noLoc k t
  | _ => true
def putLoc (n0 i n m : Nat) (env : Env) (S : Sto) : Out × Env × Sto := match env[i]? with
  | some (some (.loc k)) => if m = n ∧ n0 ≤ k ∧ k < n ∧ lone i k env = true then (.nx, env, (S.take n).set k (S.getD n (.lst []))) else (.nx, env.set i (some (.loc m)), S)
  | _ => (.nx, env.set i (some (.loc m)), S)
def putSlot (n0 i n : Nat) (v : T) (env : Env) (S : Sto) : Out × Env × Sto := match v with
  | .loc m => putLoc n0 i n m env S
  | v => (.nx, env.set i (some v), S)
def setS (i : Nat) (f : EF) : SF := fun n0 env S => (f env S).bind fun x => (gcV S.length x.1 x.2).map fun y => putSlot n0 i S.length y.1 env y.2
theorem put_ok {K : PySem.W.Frag} {i n : Nat} {σ : L2.St} {H H1 : Hp} {A A1 : List Addr} {env env' : Env} {S S1 S2 S' : Sto} {x y : T} {u : V} {o : Out} (hn : n ≤ S.length) (hE : RE K H A σ env) (hS : RS K H A S) (p1 : Pre A A1) (k1 : Keep H H1) (r1 : RS K H1 A1 S1) (q1 : Rt K H1 A1 u x)
    (e2 : gcV S.length x S1 = some (y, S2)) (hf : putSlot n i S.length y env S2 = (o, env', S')) (D : Ends) (hD : ∀ H' A', SameTo n A A' → Keep H H' → RS K H' A' S' → EndOk K H' A' o env' D) : D.nx (σ.set i (some u)) H1 := by
  have l1 : S.length ≤ S1.length := by have := p1.len; rw [hS.len, r1.len] at this; exact this
  obtain ⟨A2, p2, r2, q2⟩ := gc_ok r1 l1 q1 e2
  have pA : Pre A A2 := fun j a e => p2 j a (by rw [← hS.len]; exact (List.getElem?_eq_some_iff.mp e).1) (p1 j a e)
  have plain : (Out.nx, env.set i (some y), S2) = (o, env', S') → D.nx (σ.set i (some u)) H1 := fun z => by
    cases z
    exact hD H1 A2 (pA.sameTo n) k1 r2 _ ((hE.keep k1 pA).set q2 i)
  cases y with
  | p d => exact plain hf
  | mix d => exact plain hf
  | ro d => exact plain hf
  | ft d => exact plain hf
  | loc m =>
   replace hf : putLoc n i S.length m env S2 = (o, env', S') := hf
   unfold putLoc at hf
   split at hf
   · next k ek =>
    split at hf
    · next hc =>
      obtain ⟨rfl, hk1, hk2, hl⟩ := hc
      cases hf
      obtain ⟨a, rfl, ea⟩ := q2.locOf
      have hm := (List.getElem?_eq_some_iff.mp ea).1
      have hkA : k < A2.length := by omega
      -- the new numbers
      have sm : ∀ (j : Nat) (b : Addr), j ≠ k → A[j]? = some b → ((A2.take S.length).set k a)[j]? = some b := fun j b hj e => by
        have hjl : j < S.length := by rw [← hS.len]; exact (List.getElem?_eq_some_iff.mp e).1
        rw [List.getElem?_set_ne (Ne.symm hj), List.getElem?_take_of_lt hjl]
        exact pA j b e
      have nd : ((A2.take S.length).set k a).Nodup := by
        have inj : ∀ {i j : Nat} {b : Addr}, A2[i]? = some b → A2[j]? = some b → i = j := fun {i j b} e1 e2 => (List.getElem?_inj (List.getElem?_eq_some_iff.mp e1).1 r2.nd).mp (e1.trans e2.symm)
        rw [List.nodup_iff_pairwise_ne, List.pairwise_iff_getElem]
        intro i j hi hj hij e
        simp only [List.length_set, List.length_take] at hi hj
        rw [List.getElem_set, List.getElem_set] at e
        split at e
        · next z1 =>
          split at e
          · next z2 => omega
          · next z2 =>
            have : A2[j]? = some a := by rw [List.getElem?_eq_getElem (by omega)]; simp only [List.getElem_take] at e; rw [e]
            have := inj this ea
            omega
        · next z1 =>
          split at e
          · next z2 =>
            have : A2[i]? = some a := by rw [List.getElem?_eq_getElem (by omega)]; simp only [List.getElem_take] at e; rw [e]
            have := inj this ea
            omega
          · next z2 =>
            simp only [List.getElem_take] at e
            have := inj (List.getElem?_eq_getElem (by omega : i < A2.length)) ((List.getElem?_eq_getElem (by omega : j < A2.length)).trans (by rw [e]))
            omega
      have hS2 : S.length < S2.length := by rw [← r2.len]; exact hm
      have r3 : RS K H1 ((A2.take S.length).set k a) ((S2.take S.length).set k (S2.getD S.length (.lst []))) := by
        refine ⟨by simp [r2.len], nd, fun j b ob e q => ?_⟩
        have hj := (List.getElem?_eq_some_iff.mp e).1
        simp only [List.length_set, List.length_take] at hj
        by_cases hjk : k = j
        · subst hjk
          rw [List.getElem?_set_self (by rw [List.length_take]; omega)] at e q
          cases e; cases q
          exact r2.ob S.length a _ ea (by simp [List.getD, List.getElem?_eq_getElem hS2])
        · rw [List.getElem?_set_ne hjk, List.getElem?_take_of_lt (by omega)] at e q
          exact r2.ob j b ob e q
      refine hD H1 _ (fun j b hj e => sm j b (by omega) e) k1 r3 _ ?_
      refine ⟨by simp [hE.1], fun j t' e => ?_⟩
      obtain ⟨v', ev, rv⟩ := (hE.keep k1 (Pre.refl A)).2 j t' e
      by_cases hj : i = j
      · subst hj
        rw [ek] at e; cases e
        refine ⟨.ref a, List.getElem?_set_self (List.getElem?_eq_some_iff.mp ev).1, .loc ?_⟩
        rw [List.getElem?_set_self (by rw [List.length_take]; omega)]
      · refine ⟨v', by rw [List.getElem?_set_ne hj]; exact ev, rv.without (k := k) sm ?_⟩
        have hjl := (List.getElem?_eq_some_iff.mp e).1
        have := (List.all_eq_true.mp hl) j (List.mem_range.mpr hjl)
        rw [e] at this
        rcases Bool.or_eq_true_iff.mp this with z | z
        · exact absurd (of_decide_eq_true z).symm hj
        · exact z
    · exact plain hf
   · exact plain hf
theorem set_ok {K : PySem.W.Frag} {i : Nat} (h : EOk K te fe) : SOk K (tAsg te (gName i)) (setS i fe) := by
  intro n σ H A env S o env' S' hn hE hS hf D hD
  obtain ⟨⟨x, S1⟩, e1, hf⟩ := Option.bind_eq_some_iff.mp hf
  obtain ⟨⟨y, S2⟩, e2, hf⟩ := Option.map_eq_some_iff.mp hf
  exact h σ H A env S x S1 hE hS e1 _ fun u H1 A1 p1 k1 r1 q1 => put_ok hn hE hS p1 k1 r1 q1 e2 hf D hD
theorem pvs_set (i : Nat) {x : Str} {pos' : Pos} (hN : X.N.Nodup) (he : PV X e te fe) (hi : X.N[i]? = some x := by rfl) (hx : Loc X.env.scope x := by exact Or.inl rfl) (hs : swapsWith e (some (.Name x pos')) pos.line X.env = pure false := by rfl) (hf : X.fn x = true ∨ X.env.scope.names.lookup x = some .local := by first | exact .inl rfl | exact .inr rfl | assumption) :
    PVS X (.Assign [.Name x pos'] e pos) (tAsg te (gName i)) (setS i fe) := ⟨ps_set hN hi hx he.pe hs hf, set_ok he.ok⟩
/-- name op= e -/
def augS (i : Nat) (g : Op2) (f : EF) : SF := fun n0 env S => match env[i]? with
  | some (some x) => (f env S).bind fun y => (g x y.1 y.2).bind fun z => (gcV S.length z.1 z.2).map fun w => putSlot n0 i S.length w.1 env w.2
  | _ => none
end
end Pv
set_option maxHeartbeats 4000000
/-! Pv5: for, while, defs and their calls. -/
namespace Pv
open PySem PySem.Spec PyProof.Rows L2

section
variable {X : Cx} {a b e c : Expr} {es rest : List Expr} {ta tb te : TE} {fa fb fe : EF} {pos : Pos} {t : TT} {f : TF} {ts us : TS} {s1 s2 : SF} {st : Stmt} {sts : List Stmt}
/-! name op= e -/
def rI2 (g : Int → Int → Int) : R2 := rI0 fun i j => .int (g i j)
theorem pvs_aug (i : Nat) {x : Str} {pos' : Pos} {op : Operator} {r : TIp} {g : Op2} (ho : PIp X op r) (hg : OpOk X.K r g) (hN : X.N.Nodup) (he : PV X e te fe) (hi : X.N[i]? = some x := by rfl) (hx : Loc X.env.scope x := by exact Or.inl rfl) (hf : X.fn x = true ∨ X.env.scope.names.lookup x = some .local := by first | exact .inl rfl | exact .inr rfl | assumption) :
    PVS X (.AugAssign (.Name x pos') op e pos) (tAug i te r) (augS i g fe) := by
  refine ⟨ps_aug hN hi hx he.pe ho hf, ?_⟩
  intro n σ H A env S o env' S' hn hE hS hf D hD
  unfold augS at hf
  split at hf
  · next x0 ex =>
    obtain ⟨v0, ev, r0⟩ := hE.2 i x0 ex
    refine ⟨v0, ev, ?_⟩
    obtain ⟨⟨y, S1⟩, e1, hf⟩ := Option.bind_eq_some_iff.mp hf
    obtain ⟨⟨z, S2⟩, e2, hf⟩ := Option.bind_eq_some_iff.mp hf
    obtain ⟨⟨w, S3⟩, e3, hf⟩ := Option.map_eq_some_iff.mp hf
    refine he.ok σ H A env S y S1 hE hS e1 _ fun u H1 A1 p1 k1 q1 s1' => ?_
    exact hg H1 A1 S1 v0 u x0 y z S2 q1 (r0.keep k1 p1) s1' e2 _ fun u2 H2 A2 p2 k2 q2 s2 => put_ok hn hE hS (p1.trans p2) (k1.trans k2) q2 s2 e3 hf D hD
  · cases hf
/-- x += e of ints, of texts -/
theorem ipAdd_ok {K : PySem.W.Frag} : OpOk K (ipI fun i j => i + j) (iop fun i j => some (.int (i + j))) := iop_ok0 (g := fun i j => .int (i + j)) fun i j H => .int _
theorem ipSub_ok {K : PySem.W.Frag} : OpOk K (ipI fun i j => i - j) subI := iop_ok0 (g := fun i j => .int (i - j)) fun i j H => .int _

/-! ### what a loop walks -/
abbrev Gd := List (Nat × O)
/-- what is walked, stands -/
def GdOk (gd : Gd) (S : Sto) : Prop := ∀ p ∈ gd, S[p.1]? = some p.2
abbrev IF := Env → Sto → Option (List D × Gd × Sto)
structure ItOk (K : PySem.W.Frag) (J : It) (H0 : Hp) (A0 : List Addr) (xs : List D) (gd : Gd) : Prop where
  go : ∀ (i : Nat) (H : Hp) (A : List Addr) (S : Sto) (d : D), Keep H0 H → RS K H A S → (∀ p ∈ gd, A[p.1]? = A0[p.1]?) → GdOk gd S → xs[i]? = some d → J.go i H ∧ ∀ x H', J.yld i H x H' → Keep H H' ∧ RS K H' A S ∧ Rp K H' x d
  stop : ∀ (i : Nat) (H : Hp) (A : List Addr) (S : Sto), Keep H0 H → RS K H A S → (∀ p ∈ gd, A[p.1]? = A0[p.1]?) → GdOk gd S → xs.length ≤ i → J.stop i H
def IOk (K : PySem.W.Frag) (w : TI) (f : IF) : Prop := ∀ (σ : L2.St) (H : Hp) (A : List Addr) (env : Env) (S : Sto) (xs : List D) (gd : Gd) (S' : Sto), RE K H A σ env → RS K H A S → f env S = some (xs, gd, S') →
  ∀ R : It → Hp → Prop, (∀ J H' A', Pre A A' → Keep H H' → RS K H' A' S' → (∀ p ∈ gd, p.1 < A'.length) → ItOk K J H' A' xs gd → R J H') → w σ H R
structure PVI (X : Cx) (tg e : Expr) (w : TI) (f : IF) : Prop where
  pi : PI X tg e w
  ok : IOk X.K w f
open Classical in
noncomputable def loopF (g : GF) (body : SF) (n m : Nat) (gd : Gd) : List D → Env → Sto → Option (Out × Env × Sto)
  | [], env, S => if GdOk gd S then some (.nx, env, S) else none
  | x :: xs, env, S => if GdOk gd S then (g (.p x) env S).bind fun y => (body n y.1 y.2).bind fun z => match z.1 with
      | .rt r => some (.rt r, z.2.1, z.2.2)
      | .bk => some (.nx, forget m z.2.1, z.2.2.take m)
      | _ => loopF g body n m gd xs (forget m z.2.1) (z.2.2.take m) else none
/-- the numbers of what is walked are kept -/
def gdTop (n : Nat) (gd : Gd) : Nat := gd.foldl (fun a p => max a (p.1 + 1)) n
theorem gdTop_ge (gd : Gd) : ∀ n, n ≤ gdTop n gd ∧ ∀ p ∈ gd, p.1 < gdTop n gd := by
  induction gd with
  | nil => exact fun n => ⟨Nat.le_refl _, fun p h => by simp at h⟩
  | cons q gd ih =>
    intro n
    obtain ⟨h1, h2⟩ := ih (max n (q.1 + 1))
    refine ⟨Nat.le_trans (Nat.le_max_left _ _) h1, fun p hp => ?_⟩
    rcases List.mem_cons.mp hp with rfl | hp
    · exact Nat.lt_of_lt_of_le (Nat.lt_of_lt_of_le (Nat.lt_succ_self _) (Nat.le_max_right _ _)) h1
    · exact h2 p hp
theorem gdTop_le {gd : Gd} {k : Nat} (hk : ∀ p ∈ gd, p.1 < k) : ∀ n, n ≤ k → gdTop n gd ≤ k := by
  induction gd with
  | nil => exact fun n h => h
  | cons q gd ih => exact fun n h => ih (fun p hp => hk p (List.mem_cons_of_mem _ hp)) _ (Nat.max_le.mpr ⟨h, hk q (by simp)⟩)
noncomputable def forS (fi : IF) (g : GF) (body : SF) : SF := fun n env S => (fi env S).bind fun it => (loopF g body (gdTop n it.2.1) it.2.2.length it.2.1 it.1 env it.2.2).map fun z => match z.1 with
  | .rt r => (.rt r, z.2.1, z.2.2)
  | o => (o, forget S.length z.2.1, z.2.2.take S.length)
theorem RE.forget {K : PySem.W.Frag} {H : Hp} {A : List Addr} {σ : L2.St} {env : Env} (h : RE K H A σ env) (m : Nat) : RE K H (A.take m) σ (forget m env) := h.low (sameTake m)
theorem sameTakeTo {A A' : List Addr} {n m : Nat} (h : SameTo n A A') (l : n ≤ m) : SameTo n A (A'.take m) := fun i a hi e => by
  rw [List.getElem?_take_of_lt (by omega)]; exact h i a hi e
theorem pvs_for {tg it : Expr} {body : List Stmt} {wi : TI} {g : TG} {tb : TS} {fi : IF} {fg : GF} {sb : SF} (hp : PassesOwn (model X.prog X.w) X.A X.env X.xe) (hc : X.calm = true) (hi : PVI X tg it wi fi) (hg : PVG X tg g fg) (hb : PVB X body tb sb)
    (hs : ∀ x, foldedSetIterable it X.env x = pure x := by intro _; rfl) : PVS X (.For tg it body [] pos) (tFor wi g tb) (forS fi fg sb) := by
  refine ⟨ps_for hp hc hi.pi hg.pg hb.ps hs, ?_⟩
  intro n σ H A env S o env' S' hn hE hS hf D hD
  obtain ⟨⟨xs, gd, S1⟩, e1, hf⟩ := Option.bind_eq_some_iff.mp hf
  refine hi.ok σ H A env S xs gd S1 hE hS e1 _ fun J H1 A1 p1 k1 r1 gl J1 => ?_
  obtain ⟨⟨o9, env9, S9⟩, e2, hf⟩ := Option.map_eq_some_iff.mp hf
  have hlen : S.length ≤ S1.length := by have := p1.len; rw [hS.len, r1.len] at this; exact this
  have hn1 : gdTop n gd ≤ S1.length := gdTop_le (fun p hp => by rw [← r1.len]; exact gl p hp) n (Nat.le_trans hn hlen)
  have hgt := gdTop_ge gd n
  -- the end, as the loop's own
  have hD9 : ∀ H' A', SameTo n A A' → Keep H H' → RS X.K H' A' S9 → (match o9 with
      | .nx => ∀ σ', RE X.K H' A' σ' env9 → D.nx σ' H'
      | .bk => True
      | .ct => True
      | .rt r => ∀ v, Rt X.K H' A' v r → D.rt v H') := fun H' A' s' k' r' => by
    cases o9 with
    | nx =>
      cases hf
      intro σ' he'
      exact hD H' (A'.take S.length) (sameTakeTo s' hn) k' (r'.take _) σ' (he'.forget _)
    | bk => trivial
    | ct => trivial
    | rt r =>
      cases hf
      exact hD H' A' s' k' r'
  have nobk : ∀ (xs : List PyData) (env : Env) (S : Sto), ∀ z, loopF fg sb (gdTop n gd) S1.length gd xs env S = some z → z.1 = .nx ∨ ∃ r, z.1 = .rt r := by
    intro xs
    induction xs with
    | nil =>
      intro env S z h
      simp only [loopF] at h
      split at h
      · cases h; exact .inl rfl
      · cases h
    | cons x xs ih =>
      intro env S z h
      simp only [loopF] at h
      split at h
      · obtain ⟨y, _, h⟩ := Option.bind_eq_some_iff.mp h
        obtain ⟨w, _, h⟩ := Option.bind_eq_some_iff.mp h
        split at h
        · cases h; exact .inr ⟨_, rfl⟩
        · cases h; exact .inl rfl
        · exact ih _ _ z h
      · cases h
  refine ⟨fun i m σ H' => m = xs.length - i ∧ i ≤ xs.length ∧ ∃ A' env S, Keep H1 H' ∧ SameTo (gdTop n gd) A1 A' ∧ RE X.K H' A' σ env ∧ RS X.K H' A' S ∧ loopF fg sb (gdTop n gd) S1.length gd (xs.drop i) env S = some (o9, env9, S9),
    ⟨xs.length, by simp, Nat.zero_le _, A1, env, S1, Keep.refl H1, (Pre.refl A1).sameTo _, hE.keep k1 p1, r1, e2⟩, ?_⟩
  rintro i m σ H2 ⟨rfl, hil, A2, env2, S2, k2, p2, hE2, hS2, hf2⟩
  have gA : ∀ p ∈ gd, A2[p.1]? = A1[p.1]? := fun p hp => by
    have h1 := gl p hp
    rw [p2 p.1 _ (hgt.2 p hp) (List.getElem?_eq_getElem h1), List.getElem?_eq_getElem h1]
  by_cases hlt : i < xs.length
  · have hx : xs[i]? = some xs[i] := List.getElem?_eq_getElem hlt
    rw [List.drop_eq_getElem_cons hlt] at hf2
    simp only [loopF] at hf2
    split at hf2
    · next hgd =>
      obtain ⟨y, e3, hf2⟩ := Option.bind_eq_some_iff.mp hf2
      obtain ⟨z, e4, hf2⟩ := Option.bind_eq_some_iff.mp hf2
      obtain ⟨go, yl⟩ := J1.go i H2 A2 S2 xs[i] k2 hS2 gA hgd hx
      refine .inr ⟨go, fun σ' H' => i + 1 ≤ xs.length ∧ ∃ A' env S, Keep H1 H' ∧ SameTo (gdTop n gd) A1 A' ∧ RE X.K H' A' σ' env ∧ RS X.K H' A' S ∧ loopF fg sb (gdTop n gd) S1.length gd (xs.drop (i + 1)) env S = some (o9, env9, S9), fun σ' H' h' => ⟨xs.length - (i + 1), by omega, rfl, h'⟩, fun x H3 hy => ?_⟩
      obtain ⟨k3, r3, q3⟩ := yl x H3 hy
      obtain ⟨env3, S3⟩ := y
      refine hg.ok σ H3 A2 env2 S2 x _ env3 S3 (hE2.keep k3 (Pre.refl A2)) r3 (.p q3) e3 _ fun σ4 H4 A4 p4 k4 r4 q4 => ?_
      obtain ⟨oz, envz, Sz⟩ := z
      have l4 : gdTop n gd ≤ S3.length := by
        rw [← r4.len]
        exact Nat.le_trans (p2.le (by rw [r1.len]; exact hn1)) p4.len
      refine hb.ok (gdTop n gd) σ4 H4 A4 env3 S3 oz envz Sz l4 q4 r4 e4 _ fun H5 A5 p5 k5 r5 => ?_
      have pA : SameTo (gdTop n gd) A1 A5 := (p2.trans (p4.sameTo _)).trans p5
      have kA : Keep H1 H5 := k2.trans (k3.trans (k4.trans k5))
      have pN : SameTo n A A5 := ((p1.sameTo n).trans (pA.mono hgt.1))
      have again : ∀ (σ' : L2.St), (oz = .nx ∨ oz = .ct) → RE X.K H5 A5 σ' envz → (i + 1 ≤ xs.length ∧ ∃ A' env S, Keep H1 H5 ∧ SameTo (gdTop n gd) A1 A' ∧ RE X.K H5 A' σ' env ∧ RS X.K H5 A' S ∧ loopF fg sb (gdTop n gd) S1.length gd (xs.drop (i + 1)) env S = some (o9, env9, S9)) := fun σ' ho he => by
        refine ⟨hlt, A5.take S1.length, forget S1.length envz, Sz.take S1.length, kA, sameTakeTo pA hn1, he.forget _, r5.take _, ?_⟩
        rcases ho with rfl | rfl <;> exact hf2
      cases oz with
      | nx => exact fun σ' he => again σ' (.inl rfl) he
      | ct => exact fun σ' he => again σ' (.inr rfl) he
      | bk =>
        intro σ' he
        cases hf2
        exact hD9 H5 (A5.take S1.length) (sameTakeTo pN (Nat.le_trans hn hlen)) (k1.trans kA) (r5.take _) σ' (he.forget _)
      | rt r =>
        intro v q
        cases hf2
        exact hD9 H5 A5 pN (k1.trans kA) r5 v q
    · cases hf2
  · have e : i = xs.length := by omega
    subst e
    rw [List.drop_length] at hf2
    simp only [loopF] at hf2
    split at hf2
    · next hgd =>
      cases hf2
      exact .inl ⟨J1.stop _ H2 A2 _ k2 hS2 gA hgd (Nat.le_refl _), hD9 H2 A2 ((p1.sameTo n).trans (p2.mono hgt.1)) (k1.trans k2) hS2 σ hE2⟩
    · cases hf2

/-! ### while: so many turns at most -/
def whileF (f : TF) (body : SF) (n m : Nat) : Nat → Env → Sto → Option (Out × Env × Sto)
  | 0, _, _ => none
  | k + 1, env, S => (f env S).bind fun x => if x.1 = true then (body n env (x.2.take S.length)).bind fun z => match z.1 with
      | .rt r => some (.rt r, z.2.1, z.2.2)
      | .bk => some (.nx, forget m z.2.1, z.2.2.take m)
      | _ => whileF f body n m k (forget m z.2.1) (z.2.2.take m) else some (.nx, env, x.2.take m)
def whileS (N : Nat) (f : TF) (body : SF) : SF := fun n env S => whileF f body n S.length N env S
theorem pvs_while (N : Nat) {body : List Stmt} {tb : TS} {sb : SF} (hp : PassesOwn (model X.prog X.w) X.A X.env X.xe) (hc : PVT X c t f) (hb : PVB X body tb sb) : PVS X (.While c body [] pos) (tWhile t tb) (whileS N f sb) := by
  refine ⟨ps_while hp hc.pt hb.ps, ?_⟩
  intro n σ H A env S o env' S' hn hE hS hf D hD
  refine ⟨fun m σ H' => ∃ A' env S1, Keep H H' ∧ SameTo n A A' ∧ RE X.K H' A' σ env ∧ RS X.K H' A' S1 ∧ S1.length ≤ S.length ∧ whileF f sb n S.length m env S1 = some (o, env', S'), ⟨N, A, env, S, Keep.refl H, (Pre.refl A).sameTo n, hE, hS, Nat.le_refl _, hf⟩, ?_⟩
  rintro m σ H1 ⟨A1, env1, S1, k1, p1, hE1, hS1, l1, h1⟩
  cases m with
  | zero => cases h1
  | succ m =>
    obtain ⟨⟨b, S2⟩, e1, h1⟩ := Option.bind_eq_some_iff.mp h1
    refine hc.ok σ H1 A1 env1 S1 b S2 hE1 hS1 e1 _ fun H2 A2 p2 k2 r2 => ?_
    have q2 : Pre A1 (A2.take S1.length) := by rw [← hS1.len]; exact preTake p2
    have pA2 : SameTo n A (A2.take S1.length) := p1.trans (q2.sameTo n)
    cases b with
    | true =>
      rw [if_pos rfl]
      obtain ⟨⟨oz, envz, Sz⟩, e3, h1⟩ := Option.bind_eq_some_iff.mp h1
      refine ⟨fun σ' H' => ∃ A' env S1, Keep H H' ∧ SameTo n A A' ∧ RE X.K H' A' σ' env ∧ RS X.K H' A' S1 ∧ S1.length ≤ S.length ∧ whileF f sb n S.length m env S1 = some (o, env', S'), fun σ' H' h => ⟨m, Nat.lt_succ_self m, h⟩, ?_⟩
      have l2 : n ≤ (S2.take S1.length).length := by
        rw [← (r2.take _).len]
        exact pA2.le (by rw [hS.len]; exact hn)
      refine hb.ok n σ H2 _ env1 _ oz envz Sz l2 (hE1.keep k2 q2) (r2.take _) e3 _ fun H5 A5 p5 k5 r5 => ?_
      have pA : SameTo n A A5 := pA2.trans p5
      have kA : Keep H H5 := k1.trans (k2.trans k5)
      have again : ∀ (σ' : L2.St), (oz = .nx ∨ oz = .ct) → RE X.K H5 A5 σ' envz → ∃ A' env S1, Keep H H5 ∧ SameTo n A A' ∧ RE X.K H5 A' σ' env ∧ RS X.K H5 A' S1 ∧ S1.length ≤ S.length ∧ whileF f sb n S.length m env S1 = some (o, env', S') := fun σ' ho he => by
        refine ⟨A5.take S.length, forget S.length envz, Sz.take S.length, kA, sameTakeTo pA hn, he.forget _, r5.take _, by rw [List.length_take]; omega, ?_⟩
        rcases ho with rfl | rfl <;> exact h1
      cases oz with
      | nx => exact fun σ' he => again σ' (.inl rfl) he
      | ct => exact fun σ' he => again σ' (.inr rfl) he
      | bk =>
        intro σ' he
        cases h1
        exact hD H5 (A5.take S.length) (sameTakeTo pA hn) kA (r5.take _) σ' (he.forget _)
      | rt r =>
        intro v q
        cases h1
        exact hD H5 A5 pA kA r5 v q
    | false =>
      rw [if_neg Bool.false_ne_true]
      cases h1
      have q3 : Pre A1 (A2.take S.length) := fun i a e => by
        have := (List.getElem?_eq_some_iff.mp e).1
        rw [hS1.len] at this
        rw [List.getElem?_take_of_lt (by omega)]
        exact p2 i a e
      exact hD H2 _ (p1.trans (q3.sameTo n)) (k1.trans k2) (r2.take _) σ (hE1.keep k2 q3)
end

/-! ### defs -/
abbrev DF := List T → Sto → Option (T × Sto)
/-- what a def hands back: nothing that it made stays but what the value holds -/
def defF (n : Nat) (body : SF) : DF := fun ts S => (body S.length (ts.map some ++ List.replicate (n - ts.length) none) S).bind fun z => match z.1 with
  | .rt r => gcV S.length r z.2.2
  | .nx => some (.p .none, z.2.2.take S.length)
  | _ => none
/-- a def's promise -/
def spF (K : PySem.W.Frag) (n : Nat) (g : DF) : Sp := fun vs H Q _ => ∃ (A : List Addr) (ts : List T) (S : Sto) (r : T) (S' : Sto), ts.length = n ∧ Rts K H A vs ts ∧ RS K H A S ∧ g ts S = some (r, S') ∧
  ∀ v H' A', Pre A A' → Keep H H' → RS K H' A' S' → Rt K H' A' v r → Q v H'
section
variable {P : Program} {w : World} {K : PySem.W.Frag} {mg : Str → Option Value} {base : Heap}
theorem start_ok {H : Hp} {A : List Addr} {N : List Str} {vs : List V} {ts : List T} (r : Rts K H A vs ts) : RE K H A (start N vs) (ts.map some ++ List.replicate (N.length - ts.length) none) := by
  have hl := r.length
  refine ⟨by simp [L2.start, hl], fun i t e => ?_⟩
  unfold L2.start
  by_cases hi : i < ts.length
  · rw [List.getElem?_append_left (by simpa using hi), List.getElem?_map] at e
    cases g : ts[i]? with
    | none => rw [g] at e; cases e
    | some t' =>
      rw [g] at e
      have e' : some t' = some t := Option.some.inj e
      cases e'
      obtain ⟨v, h1, h2⟩ := r.get g
      exact ⟨v, by rw [List.getElem?_append_left (by simpa [hl] using hi), List.getElem?_map, h1]; rfl, h2⟩
  · rw [List.getElem?_append_right (by simpa using hi)] at e
    have := List.mem_of_getElem? e
    have := List.eq_of_mem_replicate this
    cases this
/-- THE RULE for a def -/
theorem def_ok {x qual : Str} {st : Stmt} {f : Addr} {fd : FuncData} {N ps : List Str} {k : Nat} {sb : SF} (F : Fun K x qual st f fd) (S : FnScope N ps (defScope st))
    (hbody : ∀ (cdv : Value) (A : Around) (outer : List PySem.Env) (s : Shared) (H : Hp) (E : XK), Room k (A.deeper (envOfC qual (defScope st) s.heap.objs.size f cdv)) →
      ∃ t, PVB (cxOf CX0 P w K mg base N qual (defScope st) f cdv A outer s H E).nox (defBody st) t sb) : FnOk P w K mg base CX0 (k + 1) f fd ps (spF K ps.length (defF N.length sb)) := by
  refine F.ok S (fun vs H Q E ⟨A, ts, S, r, S', hn, hr, _⟩ => hr.length.trans hn) fun cdv A outer s H vs Q E hr h => ?_
  obtain ⟨t, hb⟩ := hbody cdv A outer s H E hr
  obtain ⟨A0, ts, S0, r, S', hn, hv, hs, hg, hq⟩ := h
  refine ⟨t, hb.ps, ?_⟩
  obtain ⟨⟨o, env', S1⟩, e1, hg⟩ := Option.bind_eq_some_iff.mp hg
  refine hb.ok S0.length (start N vs) H A0 _ S0 o env' S1 (Nat.le_refl _) (start_ok hv) hs e1 _ fun H1 A1 p1 k1 r1 => ?_
  have pA : Pre A0 A1 := fun i a e => p1 i a (by rw [← hs.len]; exact (List.getElem?_eq_some_iff.mp e).1) e
  have hl : S0.length ≤ S1.length := by rw [← r1.len]; exact p1.le (by rw [hs.len]; exact Nat.le_refl _)
  cases o with
  | nx =>
    cases hg
    intro σ _
    exact hq .non H1 (A1.take S0.length) (by rw [← hs.len]; exact preTake pA) k1 (r1.take _) (.p .non)
  | rt v =>
    intro u q
    obtain ⟨A2, p2, r2, q2⟩ := gc_ok r1 hl q hg
    exact hq u H1 A2 (fun i a e => p2 i a (by rw [← hs.len]; exact (List.getElem?_eq_some_iff.mp e).1) (pA i a e)) k1 r2 q2
  | bk => cases hg
  | ct => cases hg
end
section
variable {X : Cx} {e : Expr} {es : List Expr} {tA : TA} {fA : AF} {pos : Pos}
def callF (n : Nat) (g : DF) (f : AF) : EF := fun env S => (f env S).bind fun x => if x.1.length = n then g x.1 x.2 else none
theorem call_ok {K : PySem.W.Frag} {n : Nat} {g : DF} {E : XK} (h : AOk K tA fA) : EOk K (tCall (spF K n g) [] E tA) (callF n g fA) := by
  intro σ H A env S v S' he hs hf Q hq
  obtain ⟨⟨x, S1⟩, e1, hf⟩ := Option.bind_eq_some_iff.mp hf
  simp only at hf
  split at hf
  · next hl =>
    refine h σ H A env S x S1 he hs e1 _ fun us H1 A1 p1 k1 s1 r1 => ?_
    show spF K n g (us ++ []) H1 Q E
    rw [List.append_nil]
    exact ⟨A1, x, S1, v, S', hl, r1, s1, hf, fun u H2 A2 p2 k2 s2 r2 => hq u H2 A2 (p1.trans p2) (k1.trans k2) s2 r2⟩
  · cases hf
theorem pv_call {k : Nat} {f : Addr} {fd : FuncData} {ps : List Str} {n : Nat} {g : DF} {x : Str} {p : Pos} (F : FnOk X.prog X.w X.K X.mg X.base CX0 k f fd ps (spF X.K n g)) (hr : Room k X.A) (hg : Gl X x) (hm : X.mg x = some (.ref f)) (hk : PySem.W.keepIn X.K (.ref f) = true) (hb : Binds X.K fd ps [])
    (ha : PVA X (e :: es) tA fA) (hd : (x == ("__debug__" : Str)) = false := by decide) (hs : starEach (e :: es) X.env = (false, eval e X.env) :: starEach es X.env := by rfl) (hn : ((backTo pos (starEach es X.env)).any fun x => x.1) = false := by rfl) :
    PV X (.Call (.Name x p) (e :: es) [] pos) (tCall (spF X.K n g) [] E0 tA) (callF n g fA) := ⟨pe_call F hr hg hm hk hb .nil pass0 ha.pa hd hs hn, call_ok ha.ok⟩
/-! built-in functions and classes by values -/
def CallOk (K : PySem.W.Frag) (r : List V → Hp → VK → Prop) (g : DF) : Prop := ∀ (H : Hp) (A : List Addr) (S : Sto) (vs : List V) (ts : List T) (v : T) (S' : Sto), RS K H A S → Rts K H A vs ts → g ts S = some (v, S') →
  ∀ Q : VK, (∀ u H' A', Pre A A' → Keep H H' → RS K H' A' S' → Rt K H' A' u v → Q u H') → r vs H Q
def argF (g : DF) (f : AF) : EF := fun env S => (f env S).bind fun x => g x.1 x.2
theorem arg_ok {K : PySem.W.Frag} {r : List V → Hp → VK → Prop} {g : DF} (h : CallOk K r g) (ha : AOk K tA fA) : EOk K (tCB r tA) (argF g fA) := by
  intro σ H A env S v S' he hs hf Q hq
  obtain ⟨⟨x, S1⟩, e1, hf⟩ := Option.bind_eq_some_iff.mp hf
  refine ha σ H A env S x S1 he hs e1 _ fun us H1 A1 p1 k1 s1 r1 => ?_
  exact h H1 A1 S1 us x v S' s1 r1 hf Q fun u H2 A2 p2 k2 s2 r2 => hq u H2 A2 (p1.trans p2) (k1.trans k2) s2 r2
theorem pv_callB {id : String} {x : Str} {p : Pos} {r : List V → Hp → VK → Prop} {g : DF} (hc : CallR X (.builtin id) r) (h : CallOk X.K r g) (hg : Gl X x) (hm : X.mg x = none) (hv : bootBuiltins x = some (.builtin id)) (ha : PVA X (e :: es) tA fA) (hn : x ≠ "__name__" := by decide) (hdb : (x == ("__debug__" : Str)) = false := by decide)
    (hs : starEach (e :: es) X.env = (false, eval e X.env) :: starEach es X.env := by rfl) (hn2 : ((backTo pos (starEach es X.env)).any fun x => x.1) = false := by rfl) : PV X (.Call (.Name x p) (e :: es) [] pos) (tCB r tA) (argF g fA) :=
  ⟨pe_callB hc hg hm hv ha.pa hn hdb hs hn2, arg_ok h ha.ok⟩
theorem pv_callTy {T' : String} {x : Str} {p : Pos} {r : List V → Hp → VK → Prop} {g : DF} (hc : CallR X (.type T') r) (h : CallOk X.K r g) (hg : Gl X x) (hm : X.mg x = none) (hv : bootBuiltins x = some (.type T')) (ha : PVA X (e :: es) tA fA) (hn : x ≠ "__name__" := by decide) (hdb : (x == ("__debug__" : Str)) = false := by decide)
    (hs : starEach (e :: es) X.env = (false, eval e X.env) :: starEach es X.env := by rfl) (hn2 : ((backTo pos (starEach es X.env)).any fun x => x.1) = false := by rfl) : PV X (.Call (.Name x p) (e :: es) [] pos) (tCB r tA) (argF g fA) :=
  ⟨pe_callTy hc hg hm hv ha.pa hn hdb hs hn2, arg_ok h ha.ok⟩
end
end Pv
set_option maxHeartbeats 4000000
/-! Pv6: built-in functions and classes, items, slices, methods of lists. -/
namespace Pv
open PySem PySem.Spec PyProof.Rows L2

section
variable {X : Cx} {a b e c : Expr} {es rest : List Expr} {ta tb te : TE} {fa fb fe : EF} {pos : Pos} {t : TT} {f : TF} {tA : TA} {fA : AF}
theorem Rts.one {K : PySem.W.Frag} {H : Hp} {A : List Addr} {vs : List V} {t : T} (r : Rts K H A vs [t]) : ∃ v, vs = [v] ∧ Rt K H A v t := by
  cases r with
  | cons a b => cases b; exact ⟨_, rfl, a⟩
theorem Rts.two {K : PySem.W.Frag} {H : Hp} {A : List Addr} {vs : List V} {t u : T} (r : Rts K H A vs [t, u]) : ∃ v w, vs = [v, w] ∧ Rt K H A v t ∧ Rt K H A w u := by
  cases r with
  | cons a b => obtain ⟨w, rfl, q⟩ := b.one; exact ⟨_, w, rfl, a, q⟩

/-! ### isinstance -/
/-- the name of a value's type -/
def tyName (S : Sto) : T → Option String
  | .p .none => some "NoneType"
  | .p (.bool _) => some "bool"
  | .p (.int _) => some "int"
  | .p (.str _) => some "str"
  | .p (.tuple _) => some "tuple"
  | .mix _ => some "tuple"
  | .ro _ => some "list"
  | .loc n => match S[n]? with
    | some (.lst _) => some "list"
    | some (.dic _) => some "dict"
    | some (.lck _) => some "dict"
    | none => none
  | _ => none
def isiF (c : String) (f : EF) : EF := fun env S => (f env S).bind fun x => (tyName x.2 x.1).bind fun n => (kitB n c).map fun b => (.p (.bool b), x.2)
theorem tyX_tup {K : PySem.W.Frag} {H : Hp} {a : Addr} {vs : List V} (h : SqT K H a vs) : TyX K H (.ref a) (.type "tuple") := by
  rcases h with (h | ⟨o, h⟩) | ⟨o, its, n, e, hc, _⟩
  · exact .base (.tup h)
  · exact .fTuple h
  · exact .kTuple e hc
theorem tyX_ro {K : PySem.W.Frag} {H : Hp} {a : Addr} {vs : List V} (h : RoL K H a vs) : TyX K H (.ref a) (.type "list") := by
  rcases h with ⟨o, h⟩ | ⟨o, its, n, e, hc, _⟩
  · exact .base (.frz h)
  · exact .kList e hc
theorem tyX_of {K : PySem.W.Frag} {H : Hp} {A : List Addr} {S : Sto} {v : V} {t : T} {n : String} (hs : RS K H A S) (r : Rt K H A v t) (h : tyName S t = some n) : TyX K H v (.type n) := by
  cases r with
  | p r =>
    cases r with
    | non => cases h; exact .base .non
    | bl b => cases h; exact .base (.bl b)
    | int i => cases h; exact .base (.int i)
    | str x => cases h; exact .base (.str x)
    | tup s r => cases h; exact tyX_tup s
  | mix s r => cases h; exact tyX_tup s
  | ro s r => cases h; exact tyX_ro s
  | ft s d r => cases h
  | loc e =>
    simp only [tyName] at h
    split at h
    · next xs q => cases h; obtain ⟨vs, h1, _⟩ := hs.ob _ _ _ e q; exact .base (.lst h1)
    · next xs q => cases h; obtain ⟨vs, h1, _⟩ := hs.ob _ _ _ e q; exact .base (.dK h1)
    · next xs q => cases h; obtain ⟨o, vs, h1, _⟩ := hs.ob _ _ _ e q; exact .fDict h1
    · cases h
theorem pv_isi {cn : String} {x : Str} {p pc : Pos} (ha : PV X e te fe) (hg : Gl X "isinstance") (hm : X.mg "isinstance" = none) (hgc : Gl X x) (hmc : X.mg x = none) (hv : bootBuiltins x = some (.type cn)) (hn : x ≠ "__name__" := by decide) (hd : (x == ("__debug__" : Str)) = false := by decide)
    (hs : starEach [e, .Name x pc] X.env = (false, eval e X.env) :: starEach [.Name x pc] X.env := by rfl) (hs2 : starEach [.Name x pc] X.env = (false, eval (.Name x pc) X.env) :: starEach [] X.env := by rfl) (hn2 : ((backTo pos (starEach [.Name x pc] X.env)).any fun x => x.1) = false := by rfl) :
    PV X (.Call (.Name "isinstance" p) [e, .Name x pc] [] pos) (tCB (rIsi X.K) (tCons te (tCons (tC (.ty cn)) tNil))) (isiF cn fe) := by
  refine ⟨pe_callB call_isi hg hm (by decide +kernel) (pa_cons ha.pe (pa_cons (pe_bltn (v := .ty cn) hgc hmc hv rfl hn hd) pa_nil hs2) hs) (by decide) (by decide) hs hn2, ?_⟩
  intro σ H A env S v S' hE hS hf Q hq
  obtain ⟨⟨y, S1⟩, e1, hf⟩ := Option.bind_eq_some_iff.mp hf
  obtain ⟨n, e2, hf⟩ := Option.bind_eq_some_iff.mp hf
  obtain ⟨r, e3, hf⟩ := Option.map_eq_some_iff.mp hf
  cases hf
  refine ha.ok σ H A env S y _ hE hS e1 _ fun u H1 A1 p1 k1 s1 r1 => ?_
  exact ⟨u, .ty cn, .type n, .type cn, r, rfl, .ty cn, tyX_of s1 r1 e2, kit_ty e3, hq _ H1 A1 p1 k1 s1 (.p (.bl r))⟩

/-! ### len, int, abs, sum, max, min, all, any -/
/-- the items of a list or a tuple -/
def seqOf (S : Sto) : T → Option (List D)
  | .p (.tuple ds) => some ds
  | .loc n => match S[n]? with
    | some (.lst xs) => some xs
    | _ => none
  | .ro xs => some xs
  | _ => none
theorem seqOf_ok {K : PySem.W.Frag} {H : Hp} {A : List Addr} {S : Sto} {v : V} {t : T} {ds : List D} (hs : RS K H A S) (r : Rt K H A v t) (h : seqOf S t = some ds) : ∃ a vs, v = .ref a ∧ (SqL K H a vs ∨ SqT K H a vs) ∧ Rps K H vs ds := by
  cases r with
  | p r =>
    cases r with
    | tup s r => cases h; exact ⟨_, _, rfl, .inr s, r⟩
    | _ => cases h
  | mix s r => cases h
  | ro s r => cases h; exact ⟨_, _, rfl, .inl s.sql, r⟩
  | ft s d r => cases h
  | loc e =>
    simp only [seqOf] at h
    split at h
    · next xs q =>
      cases h
      obtain ⟨vs, h1, r1⟩ := hs.lstOf e q
      exact ⟨_, _, rfl, .inl (SqL.of h1), r1⟩
    · cases h
def lenT : DF := fun ts S => match ts with
  | [t] => match t with
    | .p (.str x) => if x.length ≤ sizeLine then some (.p (.int (x.length : Nat)), S) else none
    | .mix us => some (.p (.int (us.length : Nat)), S)
    | .loc n => match S[n]? with
      | some (.lst xs) => some (.p (.int (xs.length : Nat)), S)
      | some (.dic xs) => some (.p (.int (xs.length : Nat)), S)
      | _ => none
    | t => (seqOf S t).map fun ds => (.p (.int (ds.length : Nat)), S)
  | _ => none
def rLen (X : Cx) : List V → Hp → VK → Prop := fun xs H Q => (∃ p ys, xs = [V.ref p] ∧ (SqL X.K H p ys ∨ SqT X.K H p ys) ∧ Q (V.int (ys.length : Nat)) H) ∨ ((∃ x, xs = [.str x] ∧ x.length ≤ sizeLine ∧ Q (.int (x.length : Nat)) H) ∨ ∃ a kvs, xs = [.ref a] ∧ H a = some (.dK kvs) ∧ Q (.int (kvs.length : Nat)) H)

theorem call_lenA : CallR X (.builtin "len") (rLen X) := call_len_seq.or (call_len_str.or call_lenD)
theorem len_ok : CallOk X.K (rLen X) lenT := by
  intro H A S vs ts v S' hs rs h Q hq
  have fin : ∀ {n : Nat}, (T.p (PyData.int (n : Nat)), S) = (v, S') → Q (.int (n : Nat)) H := fun {n} e => by
    cases e; exact hq _ H A (Pre.refl A) (Keep.refl H) hs (.p (.int _))
  unfold lenT at h
  split at h
  · next t =>
    obtain ⟨x, rfl, r⟩ := rs.one
    split at h
    · next z =>
      split at h
      · next hz =>
        cases r with
        | p r => cases r; exact .inr (.inl ⟨_, rfl, hz, fin (Option.some.inj h)⟩)
      · cases h
    · next us =>
      cases r with
      | mix s r => exact .inl ⟨_, _, rfl, .inr s, by rw [r.length]; exact fin (Option.some.inj h)⟩
    · next n =>
      obtain ⟨a, rfl, e⟩ := r.locOf
      split at h
      · next xs q =>
        obtain ⟨ws, h1, r1⟩ := hs.lstOf e q
        exact .inl ⟨_, _, rfl, .inl (SqL.of h1), by rw [r1.length]; exact fin (Option.some.inj h)⟩
      · next xs q =>
        obtain ⟨kv, h1, r1⟩ := hs.ob _ _ _ e q
        exact .inr (.inr ⟨_, _, rfl, h1, by rw [Paired.length r1]; exact fin (Option.some.inj h)⟩)
      · cases h
    · obtain ⟨ds, e, h⟩ := Option.map_eq_some_iff.mp h
      obtain ⟨a, ws, rfl, hsq, r1⟩ := seqOf_ok hs r e
      exact .inl ⟨_, _, rfl, hsq, by rw [r1.length]; exact fin h⟩
  · cases h
theorem pv_len {p : Pos} (hg : Gl X "len") (hm : X.mg "len" = none) (ha : PV X e te fe) (hs : starEach [e] X.env = (false, eval e X.env) :: starEach [] X.env := by rfl) (hn : ((backTo pos (starEach [] X.env)).any fun x => x.1) = false := by rfl) :
    PV X (.Call (.Name "len" p) [e] [] pos) (tCB (rLen X) (tCons te tNil)) (argF lenT (consF fe nilF)) := pv_callB call_lenA len_ok hg hm (by decide +kernel) (pva_cons ha pva_nil hs) (by decide) (by decide) hs hn
/-- int(x) of an int or a bool -/
def intT : DF := fun ts S => match ts with
  | [.p (.int i)] => some (.p (.int i), S)
  | [.p (.bool b)] => some (.p (.int (if b then 1 else 0)), S)
  | _ => none
theorem int_ok {K : PySem.W.Frag} : CallOk K (fun xs H Q => (∃ i, xs = [.int i] ∧ Q (.int i) H) ∨ ∃ k, xs = [.bl k] ∧ Q (.int (if k then 1 else 0)) H) intT := by
  intro H A S vs ts v S' hs rs h Q hq
  unfold intT at h
  split at h
  · obtain ⟨x, rfl, r⟩ := rs.one
    cases r with
    | p r => cases r; cases h; exact .inl ⟨_, rfl, hq _ H A (Pre.refl A) (Keep.refl H) hs (.p (.int _))⟩
  · obtain ⟨x, rfl, r⟩ := rs.one
    cases r with
    | p r => cases r; cases h; exact .inr ⟨_, rfl, hq _ H A (Pre.refl A) (Keep.refl H) hs (.p (.int _))⟩
  · cases h

def absT : DF := fun ts S => match ts with
  | [.p (.int i)] => some (.p (.int (if i < 0 then -i else i)), S)
  | _ => none
theorem abs_ok {K : PySem.W.Frag} : CallOk K (fun xs H Q => ∃ i, xs = [.int i] ∧ Q (.int (if i < 0 then -i else i)) H) absT := by
  intro H A S vs ts v S' hs rs h Q hq
  unfold absT at h
  split at h
  · obtain ⟨x, rfl, r⟩ := rs.one
    cases r with
    | p r => cases r; cases h; exact ⟨_, rfl, hq _ H A (Pre.refl A) (Keep.refl H) hs (.p (.int _))⟩
  · cases h
/-- max(i, j), min(i, j) -/
def max2T : DF := fun ts S => match ts with
  | [.p (.int i), .p (.int j)] => some (.p (.int (if j > i then j else i)), S)
  | _ => none
def min2T : DF := fun ts S => match ts with
  | [.p (.int i), .p (.int j)] => some (.p (.int (if j < i then j else i)), S)
  | _ => none
theorem max2_ok {K : PySem.W.Frag} : CallOk K (fun xs H Q => ∃ i j, xs = [.int i, .int j] ∧ Q (.int (if j > i then j else i)) H) max2T := by
  intro H A S vs ts v S' hs rs h Q hq
  unfold max2T at h
  split at h
  · obtain ⟨x, y, rfl, r, q⟩ := rs.two
    cases r with
    | p r => cases r; cases q with
      | p q => cases q; cases h; exact ⟨_, _, rfl, hq _ H A (Pre.refl A) (Keep.refl H) hs (.p (.int _))⟩
  · cases h
theorem min2_ok {K : PySem.W.Frag} : CallOk K (fun xs H Q => ∃ i j, xs = [.int i, .int j] ∧ Q (.int (if j < i then j else i)) H) min2T := by
  intro H A S vs ts v S' hs rs h Q hq
  unfold min2T at h
  split at h
  · obtain ⟨x, y, rfl, r, q⟩ := rs.two
    cases r with
    | p r => cases r; cases q with
      | p q => cases q; cases h; exact ⟨_, _, rfl, hq _ H A (Pre.refl A) (Keep.refl H) hs (.p (.int _))⟩
  · cases h
/-- lists of ints, of bools -/
def intsOf : List D → Option (List Int)
  | [] => some []
  | .int i :: ds => (intsOf ds).map fun ns => i :: ns
  | _ :: _ => none
def boolsOf : List D → Option (List Bool)
  | [] => some []
  | .bool i :: ds => (boolsOf ds).map fun ns => i :: ns
  | _ :: _ => none
theorem intsOf_map : ∀ ns : List Int, intsOf (ns.map PyData.int) = some ns
  | [] => rfl
  | n :: ns => by show (intsOf (ns.map PyData.int)).map _ = _; rw [intsOf_map ns]; rfl
theorem boolsOf_map : ∀ ns : List Bool, boolsOf (ns.map PyData.bool) = some ns
  | [] => rfl
  | n :: ns => by show (boolsOf (ns.map PyData.bool)).map _ = _; rw [boolsOf_map ns]; rfl
theorem intsOf_eq : ∀ {ds : List D} {ns : List Int}, intsOf ds = some ns → ds = ns.map PyData.int
  | [], _, h => by cases h; rfl
  | .int i :: ds, _, h => by
    obtain ⟨ms, e, h⟩ := Option.map_eq_some_iff.mp h
    subst h
    rw [intsOf_eq e]; rfl
  | .none :: _, _, h => nomatch h
  | .bool _ :: _, _, h => nomatch h
  | .str _ :: _, _, h => nomatch h
  | .list _ :: _, _, h => nomatch h
  | .tuple _ :: _, _, h => nomatch h
  | .dict _ :: _, _, h => nomatch h
theorem boolsOf_eq : ∀ {ds : List D} {ns : List Bool}, boolsOf ds = some ns → ds = ns.map PyData.bool
  | [], _, h => by cases h; rfl
  | .bool i :: ds, _, h => by
    obtain ⟨ms, e, h⟩ := Option.map_eq_some_iff.mp h
    subst h
    rw [boolsOf_eq e]; rfl
  | .none :: _, _, h => nomatch h
  | .int _ :: _, _, h => nomatch h
  | .str _ :: _, _, h => nomatch h
  | .list _ :: _, _, h => nomatch h
  | .tuple _ :: _, _, h => nomatch h
  | .dict _ :: _, _, h => nomatch h
/-- the items of a list -/
def lstOf (S : Sto) : T → Option (List D)
  | .loc n => match S[n]? with
    | some (.lst xs) => some xs
    | _ => none
  | .ro xs => some xs
  | _ => none
theorem lstOf_ok {K : PySem.W.Frag} {H : Hp} {A : List Addr} {S : Sto} {v : V} {t : T} {ds : List D} (hs : RS K H A S) (r : Rt K H A v t) (h : lstOf S t = some ds) : ∃ a vs, v = .ref a ∧ SqL K H a vs ∧ Rps K H vs ds := by
  cases r with
  | p r => cases h
  | mix s r => cases h
  | ro s r => cases h; exact ⟨_, _, rfl, s.sql, r⟩
  | ft s d r => cases h
  | loc e =>
    simp only [lstOf] at h
    split at h
    · next xs q =>
      cases h
      obtain ⟨vs, h1, r1⟩ := hs.lstOf e q
      exact ⟨_, _, rfl, SqL.of h1, r1⟩
    · cases h
def allT (any : Bool) : DF := fun ts S => match ts with
  | [t] => ((lstOf S t).bind boolsOf).map fun bs => (.p (.bool (if any then bs.any id else bs.all id)), S)
  | _ => none
theorem all_ok {K : PySem.W.Frag} : CallOk K (rAll K) (allT false) := by
  intro H A S vs ts v S' hs rs h Q hq
  unfold allT at h
  split at h
  · obtain ⟨x, rfl, r⟩ := rs.one
    obtain ⟨bs, e, h⟩ := Option.map_eq_some_iff.mp h
    obtain ⟨ds, e1, e2⟩ := Option.bind_eq_some_iff.mp e
    cases h
    obtain ⟨a, ws, rfl, hl, r1⟩ := lstOf_ok hs r e1
    rw [boolsOf_eq e2] at r1
    rw [r1.of_bools] at hl
    exact ⟨a, bs, rfl, hl, hq _ H A (Pre.refl A) (Keep.refl H) hs (.p (.bl _))⟩
  · cases h
theorem any_ok {K : PySem.W.Frag} : CallOk K (rAny K) (allT true) := by
  intro H A S vs ts v S' hs rs h Q hq
  unfold allT at h
  split at h
  · obtain ⟨x, rfl, r⟩ := rs.one
    obtain ⟨bs, e, h⟩ := Option.map_eq_some_iff.mp h
    obtain ⟨ds, e1, e2⟩ := Option.bind_eq_some_iff.mp e
    cases h
    obtain ⟨a, ws, rfl, hl, r1⟩ := lstOf_ok hs r e1
    rw [boolsOf_eq e2] at r1
    rw [r1.of_bools] at hl
    exact ⟨a, bs, rfl, hl, hq _ H A (Pre.refl A) (Keep.refl H) hs (.p (.bl _))⟩
  · cases h
def sumT : DF := fun ts S => match ts with
  | [t] => ((lstOf S t).bind intsOf).map fun ns => (.p (.int ns.sum), S)
  | _ => none
theorem sum_ok {K : PySem.W.Frag} : CallOk K (rSum K) sumT := by
  intro H A S vs ts v S' hs rs h Q hq
  unfold sumT at h
  split at h
  · obtain ⟨x, rfl, r⟩ := rs.one
    obtain ⟨bs, e, h⟩ := Option.map_eq_some_iff.mp h
    obtain ⟨ds, e1, e2⟩ := Option.bind_eq_some_iff.mp e
    cases h
    obtain ⟨a, ws, rfl, hl, r1⟩ := lstOf_ok hs r e1
    rw [intsOf_eq e2] at r1
    rw [r1.of_ints] at hl
    exact ⟨a, bs, rfl, hl, hq _ H A (Pre.refl A) (Keep.refl H) hs (.p (.int _))⟩
  · cases h
/-- the greatest, the least of a list of ints -/
def maxI : List Int → Int
  | [] => 0
  | n :: ns => ns.foldl max n
def minI : List Int → Int
  | [] => 0
  | n :: ns => ns.foldl min n
theorem foldl_max : ∀ (ns : List Int) (n : Int), (ns.foldl max n = n ∨ ns.foldl max n ∈ ns) ∧ n ≤ ns.foldl max n ∧ ∀ m ∈ ns, m ≤ ns.foldl max n
  | [], n => ⟨.inl rfl, Int.le_refl _, fun m h => by simp at h⟩
  | k :: ns, n => by
    obtain ⟨h1, h2, h3⟩ := foldl_max ns (max n k)
    show (ns.foldl max (max n k) = n ∨ ns.foldl max (max n k) ∈ k :: ns) ∧ n ≤ ns.foldl max (max n k) ∧ ∀ m ∈ k :: ns, m ≤ ns.foldl max (max n k)
    refine ⟨?_, by omega, fun m hm => ?_⟩
    · rcases h1 with h1 | h1
      · by_cases hk : n ≤ k
        · exact .inr (by rw [h1, Int.max_eq_right hk]; exact List.mem_cons_self)
        · exact .inl (by rw [h1]; omega)
      · exact .inr (List.mem_cons_of_mem _ h1)
    · rcases List.mem_cons.mp hm with rfl | hm
      · omega
      · exact h3 m hm
theorem foldl_min : ∀ (ns : List Int) (n : Int), (ns.foldl min n = n ∨ ns.foldl min n ∈ ns) ∧ ns.foldl min n ≤ n ∧ ∀ m ∈ ns, ns.foldl min n ≤ m
  | [], n => ⟨.inl rfl, Int.le_refl _, fun m h => by simp at h⟩
  | k :: ns, n => by
    obtain ⟨h1, h2, h3⟩ := foldl_min ns (min n k)
    show (ns.foldl min (min n k) = n ∨ ns.foldl min (min n k) ∈ k :: ns) ∧ ns.foldl min (min n k) ≤ n ∧ ∀ m ∈ k :: ns, ns.foldl min (min n k) ≤ m
    refine ⟨?_, by omega, fun m hm => ?_⟩
    · rcases h1 with h1 | h1
      · by_cases hk : k ≤ n
        · exact .inr (by rw [h1, Int.min_eq_right hk]; exact List.mem_cons_self)
        · exact .inl (by rw [h1]; omega)
      · exact .inr (List.mem_cons_of_mem _ h1)
    · rcases List.mem_cons.mp hm with rfl | hm
      · omega
      · exact h3 m hm
theorem maxI_spec {ns : List Int} (h : ns ≠ []) : maxI ns ∈ ns ∧ ∀ m ∈ ns, m ≤ maxI ns := by
  cases ns with
  | nil => exact absurd rfl h
  | cons n ns =>
    obtain ⟨h1, h2, h3⟩ := foldl_max ns n
    refine ⟨?_, fun m hm => ?_⟩
    · rcases h1 with h1 | h1
      · show ns.foldl max n ∈ n :: ns; rw [h1]; exact List.mem_cons_self
      · exact List.mem_cons_of_mem _ h1
    · rcases List.mem_cons.mp hm with rfl | hm
      · exact h2
      · exact h3 m hm
theorem minI_spec {ns : List Int} (h : ns ≠ []) : minI ns ∈ ns ∧ ∀ m ∈ ns, minI ns ≤ m := by
  cases ns with
  | nil => exact absurd rfl h
  | cons n ns =>
    obtain ⟨h1, h2, h3⟩ := foldl_min ns n
    refine ⟨?_, fun m hm => ?_⟩
    · rcases h1 with h1 | h1
      · show ns.foldl min n ∈ n :: ns; rw [h1]; exact List.mem_cons_self
      · exact List.mem_cons_of_mem _ h1
    · rcases List.mem_cons.mp hm with rfl | hm
      · exact h2
      · exact h3 m hm
def mmT (g : List Int → Int) : DF := fun ts S => match ts with
  | [t] => ((lstOf S t).bind intsOf).bind fun ns => if ns ≠ [] then some (.p (.int (g ns)), S) else none
  | _ => none
theorem max_ok {K : PySem.W.Frag} : CallOk K (rMax K) (mmT maxI) := by
  intro H A S vs ts v S' hs rs h Q hq
  unfold mmT at h
  split at h
  · obtain ⟨x, rfl, r⟩ := rs.one
    obtain ⟨bs, e, h⟩ := Option.bind_eq_some_iff.mp h
    obtain ⟨ds, e1, e2⟩ := Option.bind_eq_some_iff.mp e
    split at h
    · next hn =>
      cases h
      obtain ⟨a, ws, rfl, hl, r1⟩ := lstOf_ok hs r e1
      rw [intsOf_eq e2] at r1
      rw [r1.of_ints] at hl
      refine ⟨a, bs, rfl, hl, List.length_pos_iff.mpr hn, fun m hm hle => ?_⟩
      obtain ⟨q1, q2⟩ := maxI_spec hn
      have : m = maxI bs := Int.le_antisymm (q2 m hm) (hle _ q1)
      subst this
      exact hq _ H A (Pre.refl A) (Keep.refl H) hs (.p (.int _))
    · cases h
  · cases h
theorem min_ok {K : PySem.W.Frag} : CallOk K (rMin K) (mmT minI) := by
  intro H A S vs ts v S' hs rs h Q hq
  unfold mmT at h
  split at h
  · obtain ⟨x, rfl, r⟩ := rs.one
    obtain ⟨bs, e, h⟩ := Option.bind_eq_some_iff.mp h
    obtain ⟨ds, e1, e2⟩ := Option.bind_eq_some_iff.mp e
    split at h
    · next hn =>
      cases h
      obtain ⟨a, ws, rfl, hl, r1⟩ := lstOf_ok hs r e1
      rw [intsOf_eq e2] at r1
      rw [r1.of_ints] at hl
      refine ⟨a, bs, rfl, hl, List.length_pos_iff.mpr hn, fun m hm hle => ?_⟩
      obtain ⟨q1, q2⟩ := minI_spec hn
      have : m = minI bs := Int.le_antisymm (hle _ q1) (q2 m hm)
      subst this
      exact hq _ H A (Pre.refl A) (Keep.refl H) hs (.p (.int _))
    · cases h
  · cases h

/-! ### tuple(x), list(x) -/
def tupleT : DF := fun ts S => match ts with
  | [t] => (seqOf S t).map fun ds => (.p (.tuple ds), S)
  | _ => none
theorem tuple_ok {K : PySem.W.Frag} : CallOk K (fun xs H Q => ∃ p ys, xs = [.ref p] ∧ ((SqL K H p ys ∧ ∀ (l : Addr), H l = none → Q (V.ref l) (upd H l (HO.tup ys))) ∨ SqT K H p ys ∧ Q (V.ref p) H)) tupleT := by
  intro H A S vs ts v S' hs rs h Q hq
  unfold tupleT at h
  split at h
  · obtain ⟨x, rfl, r⟩ := rs.one
    obtain ⟨ds, e, h⟩ := Option.map_eq_some_iff.mp h
    cases h
    obtain ⟨a, ws, rfl, hl, r1⟩ := seqOf_ok hs r e
    rcases hl with hl | hl
    · exact ⟨a, ws, rfl, .inl ⟨hl, fun l hn => hq _ _ A (Pre.refl A) (Keep.new hn) (hs.new hn) (.p (.tup (SqT.of upd_same) (r1.keep (Keep.new hn))))⟩⟩
    · exact ⟨a, ws, rfl, .inr ⟨hl, hq _ H A (Pre.refl A) (Keep.refl H) hs (.p (.tup hl r1))⟩⟩
  · cases h
def listT : DF := fun ts S => match ts with
  | [t] => (seqOf S t).map fun ds => (.loc S.length, S ++ [.lst ds])
  | _ => none
theorem list_ok {K : PySem.W.Frag} : CallOk K (fun xs H Q => ∃ p ys, xs = [V.ref p] ∧ (SqL K H p ys ∨ SqT K H p ys) ∧ ∀ (l : Addr), H l = none → Q (V.ref l) (upd H l (HO.lst ys))) listT := by
  intro H A S vs ts v S' hs rs h Q hq
  unfold listT at h
  split at h
  · obtain ⟨x, rfl, r⟩ := rs.one
    obtain ⟨ds, e, h⟩ := Option.map_eq_some_iff.mp h
    cases h
    obtain ⟨a, ws, rfl, hl, r1⟩ := seqOf_ok hs r e
    exact ⟨a, ws, rfl, hl, fun l hn => hq _ _ _ (Pre.app A [l]) (Keep.new hn) (hs.newL hn r1) hs.numL⟩
  · cases h

/-! ### items, slices -/
def ixT : Op2 := fun x y S => match y with
  | .p (.int i) => match x with
    | .p (.str z) => if z.length ≤ sizeLine then (atI z.cps.toList i).map fun c => (.p (.str ⟨#[c]⟩), S) else none
    | .mix ts => (atI ts i).map fun t => (t, S)
    | x => ((seqOf S x).bind fun ds => atI ds i).map fun d => (.p d, S)
  | _ => none
theorem atI_rel {K : PySem.W.Frag} {H : Hp} {vs : List V} {ds : List D} {i : Int} {d : D} (r : Rps K H vs ds) (h : atI ds i = some d) : ∃ v, atI vs i = some v ∧ Rp K H v d := by
  unfold atI at h ⊢
  obtain ⟨j, e1, e2⟩ := Option.bind_eq_some_iff.mp h
  obtain ⟨v, e3, q⟩ := r.get e2
  exact ⟨v, by rw [r.length, e1]; exact e3, q⟩
theorem atI_relT {K : PySem.W.Frag} {H : Hp} {A : List Addr} {vs : List V} {ds : List T} {i : Int} {d : T} (r : Rts K H A vs ds) (h : atI ds i = some d) : ∃ v, atI vs i = some v ∧ Rt K H A v d := by
  unfold atI at h ⊢
  obtain ⟨j, e1, e2⟩ := Option.bind_eq_some_iff.mp h
  obtain ⟨v, e3, q⟩ := r.get e2
  exact ⟨v, by rw [r.length, e1]; exact e3, q⟩
theorem ix_ok {K : PySem.W.Frag} : OpOk K (rIx K) ixT := by
  intro H A S x y a b v S' hs rx ry h Q hq
  unfold ixT at h
  split at h
  · cases ry with
    | p ry =>
      cases ry
      split at h
      · split at h
        · next hz =>
          obtain ⟨c, e, h⟩ := Option.map_eq_some_iff.mp h
          cases h
          cases rx with
          | p rx => cases rx; exact .inr (.inr ⟨_, _, c, rfl, rfl, hz, e, hq _ H A (Pre.refl A) (Keep.refl H) hs (.p (.str _))⟩)
        · cases h
      · obtain ⟨t, e, h⟩ := Option.map_eq_some_iff.mp h
        cases h
        cases rx with
        | mix s r =>
          obtain ⟨u, e2, q⟩ := atI_relT r e
          exact .inr (.inl ⟨_, _, _, u, rfl, rfl, s, e2, hq _ H A (Pre.refl A) (Keep.refl H) hs q⟩)
      · obtain ⟨d, e, h⟩ := Option.map_eq_some_iff.mp h
        cases h
        obtain ⟨ds, e1, e2⟩ := Option.bind_eq_some_iff.mp e
        obtain ⟨p, ws, rfl, hl, r1⟩ := seqOf_ok hs rx e1
        obtain ⟨u, e3, q⟩ := atI_rel r1 e2
        rcases hl with hl | hl
        · exact .inl ⟨_, _, _, u, rfl, rfl, hl, e3, hq _ H A (Pre.refl A) (Keep.refl H) hs (.p q)⟩
        · exact .inr (.inl ⟨_, _, _, u, rfl, rfl, hl, e3, hq _ H A (Pre.refl A) (Keep.refl H) hs (.p q)⟩)
  · cases h
theorem pv_ixs (ha : PV X a ta fa) (hb : PV X b tb fb) (hs : PlainIx b) : PV X (.Subscript a b pos) (tOp (rIx X.K) ta tb) (binF ixT fa fb) := pv_ix ix_seq ix_ok ha hb hs
end
end Pv
set_option maxHeartbeats 4000000
/-! Pv7: slices, methods of lists, what is walked, comprehensions. -/
namespace Pv
open PySem PySem.Spec PyProof.Rows L2

section
variable {X : Cx} {a b e c tg it elt : Expr} {es rest : List Expr} {ta tb te : TE} {fa fb fe : EF} {pos p2 : Pos} {t : TT} {f : TF} {tA : TA} {fA : AF} {lo hi : Option Expr} {tl th : TO}
/-! ### slices -/
abbrev OF := Env → Sto → Option (Option Int × Sto)
structure PVO (X : Cx) (e : Option Expr) (t : TO) (f : OF) : Prop where
  po : PO X e t
  ok : ∀ (σ : L2.St) (H : Hp) (A : List Addr) (env : Env) (S : Sto) (r : Option Int) (S' : Sto), RE X.K H A σ env → RS X.K H A S → f env S = some (r, S') → ∀ Q : Option Int → Hp → Prop, (∀ H' A', Pre A A' → Keep H H' → RS X.K H' A' S' → Q r H') → t σ H Q
def noO : OF := fun _ S => some (none, S)
def someO (f : EF) : OF := fun env S => (f env S).bind fun x => match x.1 with
  | .p (.int i) => some (some i, x.2)
  | _ => none
theorem pvo_none : PVO X none tNoPart noO := ⟨po_none, fun σ H A env S r S' hE hS h Q hq => by cases h; exact hq H A (Pre.refl A) (Keep.refl H) hS⟩
theorem pvo_some (h : PV X e te fe) : PVO X (some e) (tPart te) (someO fe) := by
  refine ⟨po_some h.pe, fun σ H A env S r S' hE hS hf Q hq => ?_⟩
  obtain ⟨⟨x, S1⟩, e1, hf⟩ := Option.bind_eq_some_iff.mp hf
  refine h.ok σ H A env S x S1 hE hS e1 _ fun u H1 A1 p1 k1 s1 r1 => ?_
  simp only at hf
  split at hf
  · cases r1 with
    | p r1 => cases r1; cases hf; exact ⟨_, rfl, hq H1 A1 p1 k1 s1⟩
  · cases hf
/-- the items of xs[lo:hi] -/
def cutL {α : Type} (xs : List α) (lo hi : Option Int) : List α := (xs.drop (HT.sIx xs.length 0 lo)).take (HT.sIx xs.length xs.length hi - HT.sIx xs.length 0 lo)
def slT : T → Option Int → Option Int → Sto → Option (T × Sto) := fun x lo hi S => match x with
  | .p (.str z) => if z.length ≤ sizeLine then some (.p (.str (cutS z lo hi)), S) else none
  | .p (.tuple ds) => some (.p (.tuple (cutL ds lo hi)), S)
  | x => (lstOf S x).map fun ds => (.loc S.length, S ++ [.lst (cutL ds lo hi)])
def sliceF (fe : EF) (fl fh : OF) : EF := fun env S => (fe env S).bind fun x => (fl env x.2).bind fun l => (fh env l.2).bind fun h => slT x.1 l.1 h.1 h.2
def rSlT2 (K : PySem.W.Frag) : V → Option Int → Option Int → Hp → VK → Prop := fun x lo hi H Q => rSlS x lo hi H Q ∨ (rSlA K x lo hi H Q ∨ rSlL K x lo hi H Q)
theorem cut_rel {K : PySem.W.Frag} {H : Hp} {vs : List V} {ds : List D} (r : Rps K H vs ds) (lo hi : Option Int) : Rps K H (cutV vs lo hi) (cutL ds lo hi) := by
  unfold cutV cutL
  rw [r.length]
  exact (r.drop _).take _
theorem cutL_whole {α : Type} {xs : List α} {lo hi : Option Int} (h : HT.sIx xs.length 0 lo = 0 ∧ HT.sIx xs.length xs.length hi = xs.length) : cutL xs lo hi = xs := by
  unfold cutL
  rw [h.1, h.2]
  simp
theorem pv_slice {fl fh : OF} (he : PV X e te fe) (hl : PVO X lo tl fl) (hu : PVO X hi th fh) : PV X (.Subscript e (.Slice lo hi none p2) pos) (tSl (rSlT2 X.K) te tl th) (sliceF fe fl fh) := by
  refine ⟨pe_slice (sl_str.or (sl_tupA.or sl_list)) he.pe hl.po hu.po, ?_⟩
  intro σ H A env S v S' hE hS hf Q hq
  obtain ⟨⟨x, S1⟩, e1, hf⟩ := Option.bind_eq_some_iff.mp hf
  obtain ⟨⟨l, S2⟩, e2, hf⟩ := Option.bind_eq_some_iff.mp hf
  obtain ⟨⟨h, S3⟩, e3, hf⟩ := Option.bind_eq_some_iff.mp hf
  refine he.ok σ H A env S x S1 hE hS e1 _ fun u H1 A1 p1 k1 s1 r1 => ?_
  refine hl.ok σ H1 A1 env S1 l S2 (hE.keep k1 p1) s1 e2 _ fun H2 A2 p2 k2 s2 => ?_
  refine hu.ok σ H2 A2 env S2 h S3 (hE.keep (k1.trans k2) (p1.trans p2)) s2 e3 _ fun H3 A3 p3 k3 s3 => ?_
  have r3 := r1.keep (k2.trans k3) (p2.trans p3)
  have fin : ∀ u' H' A', Pre A3 A' → Keep H3 H' → RS X.K H' A' S' → Rt X.K H' A' u' v → Q u' H' := fun u' H' A' p k s r => hq u' H' A' (p1.trans (p2.trans (p3.trans p))) (k1.trans (k2.trans (k3.trans k))) s r
  simp only [slT] at hf
  split at hf
  · split at hf
    · next hz =>
      cases hf
      cases r3 with
      | p r => cases r; exact .inl ⟨_, rfl, hz, fin _ H3 A3 (Pre.refl _) (Keep.refl _) s3 (.p (.str _))⟩
    · cases hf
  · cases hf
    obtain ⟨p, vs, rfl, s, r⟩ := r3.tupOf
    refine .inr (.inl ⟨p, vs, rfl, s, fun hw => ?_, fun _ z hz => ?_⟩)
    · rw [r.length] at hw
      refine fin _ H3 A3 (Pre.refl _) (Keep.refl _) s3 (.p (.tup s ?_))
      rw [cutL_whole hw]
      exact r
    · exact fin _ _ A3 (Pre.refl _) (Keep.new hz) (s3.new hz) (.p (.tup (SqT.of upd_same) ((cut_rel r l h).keep (Keep.new hz))))
  · obtain ⟨ds, e4, hf⟩ := Option.map_eq_some_iff.mp hf
    cases hf
    obtain ⟨p, vs, rfl, s, r⟩ := lstOf_ok s3 r3 e4
    exact .inr (.inr ⟨p, vs, rfl, s, fun z hz => fin _ _ _ (Pre.app A3 [z]) (Keep.new hz) (s3.newL hz (cut_rel r l h)) s3.numL⟩)
/-- xs[::-1] of a list -/
def revF (fe : EF) : EF := fun env S => (fe env S).bind fun x => (lstOf x.2 x.1).map fun ds => (.loc x.2.length, x.2 ++ [.lst ds.reverse])
theorem pv_revL {k : Nat} {p1 p2 p3 pos : Pos} (he : PV X e te fe) : PV X (.Subscript e (.Slice none none (some (.UnaryOp .USub (.Constant (.int 1) k p1) p2)) p3) pos) (tRevL X.K te) (revF fe) := by
  refine ⟨pe_revL he.pe, ?_⟩
  intro σ H A env S v S' hE hS hf Q hq
  obtain ⟨⟨x, S1⟩, e1, hf⟩ := Option.bind_eq_some_iff.mp hf
  obtain ⟨ds, e4, hf⟩ := Option.map_eq_some_iff.mp hf
  cases hf
  refine he.ok σ H A env S x S1 hE hS e1 _ fun u H1 A1 p1 k1 s1 r1 => ?_
  obtain ⟨p, vs, rfl, s, r⟩ := lstOf_ok s1 r1 e4
  exact ⟨p, vs, rfl, s, fun z hz => hq _ _ _ (p1.trans (Pre.app A1 [z])) (k1.trans (Keep.new hz)) (s1.newL hz r.rev) s1.numL⟩

/-! ### methods of lists -/
/-- the receiver is a list of the store -/
def isLst (S : Sto) : T → Bool
  | .loc n => match S[n]? with
    | some (.lst _) => true
    | _ => false
  | _ => false
theorem isLst_tyV {K : PySem.W.Frag} {H : Hp} {A : List Addr} {S : Sto} {v : V} {t : T} (hs : RS K H A S) (r : Rt K H A v t) (h : isLst S t = true) : tyV K "list" v H := by
  cases r with
  | loc e =>
    simp only [isLst] at h
    split at h
    · next xs q =>
      obtain ⟨vs, h1, _⟩ := hs.lstOf e q
      exact .inl ⟨rfl, vs, SqL.of h1⟩
    · cases h
  | p r => cases h
  | mix s r => cases h
  | ro s r => cases h
  | ft s d r => cases h
abbrev MF := T → List T → Sto → Option (T × Sto)
def MtOk (K : PySem.W.Frag) (r : V → List V → Hp → VK → Prop) (g : MF) : Prop := ∀ (H : Hp) (A : List Addr) (S : Sto) (x : V) (vs : List V) (a : T) (ts : List T) (v : T) (S' : Sto), RS K H A S → Rt K H A x a → Rts K H A vs ts → g a ts S = some (v, S') →
  ∀ Q : VK, (∀ u H' A', Pre A A' → Keep H H' → RS K H' A' S' → Rt K H' A' u v → Q u H') → r x vs H Q
def methF (g : MF) (fe : EF) (fA : AF) : EF := fun env S => (fe env S).bind fun x => if isLst x.2 x.1 = true then (fA env x.2).bind fun y => g x.1 y.1 y.2 else none
theorem meth_ok {K : PySem.W.Frag} {r : V → List V → Hp → VK → Prop} {g : MF} (h : MtOk K r g) (he : EOk K te fe) (ha : AOk K tA fA) : EOk K (tBM K "list" r te tA) (methF g fe fA) := by
  intro σ H A env S v S' hE hS hf Q hq
  obtain ⟨⟨x, S1⟩, e1, hf⟩ := Option.bind_eq_some_iff.mp hf
  refine he σ H A env S x S1 hE hS e1 _ fun u H1 A1 p1 k1 s1 r1 => ?_
  simp only at hf
  split at hf
  · next hl =>
    obtain ⟨⟨y, S2⟩, e2, hf⟩ := Option.bind_eq_some_iff.mp hf
    refine ⟨isLst_tyV s1 r1 hl, ?_⟩
    refine ha σ H1 A1 env S1 y S2 (hE.keep k1 p1) s1 e2 _ fun us H2 A2 p2 k2 s2 r2 => ?_
    exact h H2 A2 S2 u us x y v S' s2 (r1.keep k2 p2) r2 hf Q fun u3 H3 A3 p3 k3 s3 r3 => hq u3 H3 A3 (p1.trans (p2.trans p3)) (k1.trans (k2.trans k3)) s3 r3
  · cases hf
def appendT : MF := fun x ts S => match x, ts with
  | .loc n, [.p d] => match S[n]? with
    | some (.lst xs) => if xs.length < sizeLine then some (.p .none, S.set n (.lst (xs ++ [d]))) else none
    | _ => none
  | _, _ => none
theorem append_ok {K : PySem.W.Frag} : MtOk K rAppend appendT := by
  intro H A S x vs a ts v S' hs rx rs h Q hq
  unfold appendT at h
  split at h
  · obtain ⟨p, rfl, e⟩ := rx.locOf
    obtain ⟨y, rfl, ry⟩ := rs.one
    split at h
    · next xs q =>
      split at h
      · next hz =>
        cases h
        obtain ⟨ws, h1, r1⟩ := hs.lstOf e q
        cases ry with
        | p ry =>
          refine ⟨p, ws, y, rfl, rfl, h1, by rw [r1.length]; exact hz, ?_⟩
          have k := Keep.put (o' := .lst (ws ++ [y])) h1 free_lst
          exact hq _ _ A (Pre.refl A) k (hs.put e ⟨_, upd_same, (r1.app (.cons ry .nil)).keep k⟩) (.p .non)
      · cases h
    · cases h
  · cases h
def popAtT : MF := fun x ts S => match x, ts with
  | .loc n, [.p (.int i)] => match S[n]? with
    | some (.lst xs) => if 0 ≤ i ∧ i < (xs.length : Int) ∧ i < 2 ^ 63 then (xs[i.toNat]?).map fun d => (.p d, S.set n (.lst (xs.eraseIdx i.toNat))) else none
    | _ => none
  | _, _ => none
theorem popAt_ok {K : PySem.W.Frag} : MtOk K rPopAt popAtT := by
  intro H A S x vs a ts v S' hs rx rs h Q hq
  unfold popAtT at h
  split at h
  · obtain ⟨p, rfl, e⟩ := rx.locOf
    obtain ⟨y, rfl, ry⟩ := rs.one
    split at h
    · next xs q =>
      split at h
      · next hz =>
        obtain ⟨d, e2, h⟩ := Option.map_eq_some_iff.mp h
        cases h
        obtain ⟨ws, h1, r1⟩ := hs.lstOf e q
        obtain ⟨u, e3, ru⟩ := r1.get e2
        cases ry with
        | p ry =>
          cases ry
          have k := fun o' => Keep.put (o' := o') h1 free_lst
          exact ⟨p, ws, _, _, u, rfl, rfl, h1, by omega, hz.2.2, seqIndex_of hz.1 (by rw [r1.length]; exact hz.2.1), e3, hq _ _ A (Pre.refl A) (k _) (hs.put e ⟨_, upd_same, (r1.eraseIdx _).keep (k _)⟩) (.p (ru.keep (k _)))⟩
      · cases h
    · cases h
  · cases h
/-- o[i] = v of a list -/
def setLS (fo fi fv : EF) : SF := fun _ env S => (fv env S).bind fun v => (fo env v.2).bind fun o => (fi env o.2).bind fun i => match v.1, o.1, i.1 with
  | .p d, .loc n, .p (.int k) => match i.2[n]? with
    | some (.lst xs) => (ixN xs.length k).map fun j => (.nx, env, (i.2.set n (.lst (xs.set j d))).take S.length)
    | _ => none
  | _, _, _ => none
theorem pvs_setL {o i : Expr} {to ti tv : TE} {fo fi fv : EF} {pos' : Pos} (ho : PV X o to fo) (hi : PV X i ti fi) (hv : PV X e tv fv) (hs : swapsWithSole [.Subscript o i pos'] e pos.line X.env = pure false := by rfl) (hw : swappedStores [.Subscript o i pos'] e X.env = pure none := by rfl)
    (h1 : (assignEach [.Subscript o i pos'] X.env).map (·.2) = [assign (.Subscript o i pos') X.env] := by rfl)
    (ha : ∀ v, assign (.Subscript o i pos') X.env v = (do
      let ov ← holding [v] (eval o X.env)
      let iv ← holding [v, ov] (eval i X.env)
      standAt pos'
      holding [v, ov, iv] (setItem ov iv v)
      release [v, ov, iv] []) := by intro _; rfl) : PVS X (.Assign [.Subscript o i pos'] e pos) (tAsg tv (gSub to ti rSetL)) (setLS fo fi fv) := by
  refine ⟨ps_asg hv.pe (pg_sub ho.pe hi.pe set_list ha) hs hw h1, ?_⟩
  intro n σ H A env S oo env' S' hn hE hS hf D hD
  obtain ⟨⟨x, S1⟩, e1, hf⟩ := Option.bind_eq_some_iff.mp hf
  obtain ⟨⟨y, S2⟩, e2, hf⟩ := Option.bind_eq_some_iff.mp hf
  obtain ⟨⟨z, S3⟩, e3, hf⟩ := Option.bind_eq_some_iff.mp hf
  refine hv.ok σ H A env S x S1 hE hS e1 _ fun u H1 A1 p1 k1 s1 r1 => ?_
  refine ho.ok σ H1 A1 env S1 y S2 (hE.keep k1 p1) s1 e2 _ fun u2 H2 A2 p2 k2 s2 r2 => ?_
  refine hi.ok σ H2 A2 env S2 z S3 (hE.keep (k1.trans k2) (p1.trans p2)) s2 e3 _ fun u3 H3 A3 p3 k3 s3 r3 => ?_
  simp only at hf
  split at hf
  · split at hf
    · next xs q =>
      obtain ⟨j, e4, hf⟩ := Option.map_eq_some_iff.mp hf
      cases hf
      obtain ⟨pa, rfl, e5⟩ := (r2.keep k3 p3).locOf
      obtain ⟨ws, h6, r6⟩ := s3.lstOf e5 q
      cases r3 with
      | p r3 =>
        cases r3
        cases r1 with
        | p r1 =>
          have kk := Keep.put (o' := .lst (ws.set j u)) h6 free_lst
          refine ⟨pa, ws, _, j, rfl, rfl, h6, by rw [r6.length]; exact e4, ?_⟩
          have s4 : RS X.K (upd H3 pa (.lst (ws.set j u))) A3 (S3.set _ (.lst (xs.set j _))) := s3.put e5 ⟨_, upd_same, (r6.set (r1.keep (k2.trans k3)) j).keep kk⟩
          have pA := p1.trans (p2.trans p3)
          have pT : Pre A (A3.take S.length) := by rw [← hS.len]; exact preTake pA
          exact hD _ _ (pT.sameTo n) (k1.trans (k2.trans (k3.trans kk))) (s4.take _) σ (hE.keep (k1.trans (k2.trans (k3.trans kk))) pT)
    · cases hf
  · cases hf

/-! ### what is walked -/
def seqI (fe : EF) : IF := fun env S => (fe env S).bind fun x => match x.1 with
  | .p (.tuple ds) => some (ds, [], x.2)
  | .ro xs => some (xs, [], x.2)
  | .loc n => match x.2[n]? with
    | some (.lst xs) => some (xs, [(n, .lst xs)], x.2)
    | _ => none
  | _ => none
/-- over a tuple -/
def tupI (fe : EF) : IF := fun env S => (fe env S).bind fun x => match x.1 with
  | .p (.tuple ds) => some (ds, [], x.2)
  | _ => none
theorem SqT.inj2 {K : PySem.W.Frag} {H : Hp} {a : Addr} {xs ys : List V} (h : SqT K H a xs) (h' : SqT K H a ys) (hH : ∀ o, K.lookup a = some o → H a = none) : xs = ys := by
  rcases h with (h | ⟨o, h⟩) | ⟨o, its, n, e, _, d, _, r⟩
  · rcases h' with (h' | ⟨o', h'⟩) | ⟨o', its', n', e', _⟩
    · rw [h] at h'; cases h'; rfl
    · rw [h] at h'; cases h'
    · rw [hH _ e'] at h; cases h
  · rcases h' with (h' | ⟨o', h'⟩) | ⟨o', its', n', e', _⟩
    · rw [h] at h'; cases h'
    · rw [h] at h'; cases h'; rfl
    · rw [hH _ e'] at h; cases h
  · rcases h' with (h' | ⟨o', h'⟩) | ⟨o', its', n', e', _, d', _, r'⟩
    · rw [hH _ e] at h'; cases h'
    · rw [hH _ e] at h'; cases h'
    · rw [e] at e'; cases e'; rw [d] at d'; cases d'; exact r.inj r'
theorem pvi_tup (he : PV X e te fe) : PVI X tg e (iTup X.K te) (tupI fe) := by
  refine ⟨pi_tup he.pe, ?_⟩
  intro σ H A env S xs gd S' hE hS hf R hR
  obtain ⟨⟨x, S1⟩, e1, hf⟩ := Option.bind_eq_some_iff.mp hf
  refine he.ok σ H A env S x S1 hE hS e1 _ fun u H1 A1 p1 k1 s1 r1 => ?_
  simp only at hf
  split at hf
  · cases hf
    obtain ⟨a, vs, rfl, s, r⟩ := r1.tupOf
    refine ⟨a, rfl, ⟨vs, s⟩, hR _ H1 A1 p1 k1 s1 (fun p h => by simp at h) ⟨fun i H2 A2 S2 d k2 s2 _ _ hd => ?_, fun i H2 A2 S2 k2 s2 _ _ hl => ?_⟩⟩
    · obtain ⟨v, ev, rv⟩ := (r.keep k2).get hd
      have s3 := k2.sqt s
      exact ⟨⟨vs, v, s3, ev⟩, fun y H3 hy => by
        obtain ⟨rfl, hy⟩ := hy
        have := hy vs s3
        rw [ev] at this; cases this
        exact ⟨Keep.refl _, s2, rv⟩⟩
    · exact ⟨vs, k2.sqt s, by rw [r.length]; exact hl⟩
  · cases hf
/-- over a list -/
def lstI (fe : EF) : IF := fun env S => (fe env S).bind fun x => match x.1 with
  | .ro xs => some (xs, [], x.2)
  | .loc n => match x.2[n]? with
    | some (.lst xs) => some (xs, [(n, .lst xs)], x.2)
    | _ => none
  | _ => none
theorem pvi_list (he : PV X e te fe) : PVI X tg e (iList X.K te) (lstI fe) := by
  refine ⟨pi_list he.pe, ?_⟩
  intro σ H A env S xs gd S' hE hS hf R hR
  obtain ⟨⟨x, S1⟩, e1, hf⟩ := Option.bind_eq_some_iff.mp hf
  refine he.ok σ H A env S x S1 hE hS e1 _ fun u H1 A1 p1 k1 s1 r1 => ?_
  simp only at hf
  split at hf
  · cases hf
    cases r1 with
    | @ro a vs ds s r =>
      refine ⟨a, rfl, ⟨vs, s.sql⟩, hR _ H1 A1 p1 k1 s1 (fun p h => by simp at h) ⟨fun i H2 A2 S2 d k2 s2 _ _ hd => ?_, fun i H2 A2 S2 k2 s2 _ _ hl => ?_⟩⟩
      · obtain ⟨v, ev, rv⟩ := (r.keep k2).get hd
        have s3 := (k2.rol s).sql
        exact ⟨⟨vs, v, s3, ev⟩, fun y H3 hy => by
          obtain ⟨rfl, hy⟩ := hy
          have := hy vs s3
          rw [ev] at this; cases this
          exact ⟨Keep.refl _, s2, rv⟩⟩
      · exact ⟨vs, (k2.rol s).sql, by rw [r.length]; exact hl⟩
  · split at hf
    · next ys q =>
      cases hf
      obtain ⟨a, rfl, ea⟩ := r1.locOf
      have hlt := (List.getElem?_eq_some_iff.mp ea).1
      obtain ⟨ws, h1, _⟩ := s1.lstOf ea q
      refine ⟨a, rfl, ⟨ws, SqL.of h1⟩, hR _ H1 A1 p1 k1 s1 (fun p h => by
        rcases List.mem_cons.mp h with h | h
        · rw [h]; exact hlt
        · simp at h) ⟨fun i H2 A2 S2 d k2 s2 hA hG hd => ?_, fun i H2 A2 S2 k2 s2 hA hG hl => ?_⟩⟩
      · obtain ⟨vs, h2, r⟩ := s2.lstOf ((hA _ List.mem_cons_self).trans ea) (hG _ List.mem_cons_self)
        obtain ⟨v, ev, rv⟩ := r.get hd
        exact ⟨⟨vs, v, SqL.of h2, ev⟩, fun y H3 hy => by
          obtain ⟨rfl, hy⟩ := hy
          have := hy vs (SqL.of h2)
          rw [ev] at this; cases this
          exact ⟨Keep.refl _, s2, rv⟩⟩
      · obtain ⟨vs, h2, r⟩ := s2.lstOf ((hA _ List.mem_cons_self).trans ea) (hG _ List.mem_cons_self)
        exact ⟨vs, SqL.of h2, by rw [r.length]; exact hl⟩
    · cases hf
  · cases hf
/-- lo, lo + 1, .. -/
def rangeL (lo : Int) (n : Nat) : List D := (List.range n).map fun (i : Nat) => PyData.int (lo + (i : Int))
def small62 (i : Int) : Bool := decide (-(2 ^ 62) ≤ i) && decide (i < 2 ^ 62)
theorem small62_ok {i : Int} (h : small62 i = true) : -(2 ^ 62) ≤ i ∧ i < 2 ^ 62 := by simpa [small62] using h
theorem itr_ok {K : PySem.W.Frag} {H1 : Hp} {A1 : List Addr} (lo : Int) (n : Nat) : ItOk K (Itr lo n) H1 A1 (rangeL lo n) [] := by
  refine ⟨fun i H2 A2 S2 d k2 s2 _ _ hd => ?_, fun i H2 A2 S2 k2 s2 _ _ hl => ?_⟩
  · unfold rangeL at hd
    rw [List.getElem?_map] at hd
    cases g : (List.range n)[i]? with
    | none => rw [g] at hd; cases hd
    | some j =>
      rw [g] at hd
      obtain ⟨h1, h2⟩ := List.getElem?_eq_some_iff.mp g
      simp at h1 h2
      subst h2
      have : PyData.int (lo + (i : Int)) = d := Option.some.inj hd
      subst this
      exact ⟨h1, fun y H3 hy => by
        obtain ⟨rfl, rfl⟩ := hy
        exact ⟨Keep.refl _, s2, .int _⟩⟩
  · show n ≤ i
    simpa [rangeL] using hl
def range1I (fA : AF) : IF := fun env S => (fA env S).bind fun x => match x.1 with
  | [.p (.int j)] => if small62 j = true then some (rangeL 0 j.toNat, [], x.2) else none
  | _ => none
def range2I (fA : AF) : IF := fun env S => (fA env S).bind fun x => match x.1 with
  | [.p (.int i), .p (.int j)] => if small62 i = true ∧ small62 j = true then some (rangeL i (j - i).toNat, [], x.2) else none
  | _ => none
theorem pvi_range1 {p pos : Pos} (hg : Gl X "range") (hm : X.mg "range" = none) (ha : PVA X [a] tA fA) (hs : starEach [a] X.env = [(false, eval a X.env)] := by rfl) : PVI X tg (.Call (.Name "range" p) [a] [] pos) (iRng1 tA) (range1I fA) := by
  refine ⟨pi_range1 hg hm ha.pa hs, ?_⟩
  intro σ H A env S xs gd S' hE hS hf R hR
  obtain ⟨⟨x, S1⟩, e1, hf⟩ := Option.bind_eq_some_iff.mp hf
  refine ha.ok σ H A env S x S1 hE hS e1 _ fun us H1 A1 p1 k1 s1 r1 => ?_
  simp only at hf
  split at hf
  · split at hf
    · next h62 =>
      cases hf
      obtain ⟨y, rfl, ry⟩ := r1.one
      cases ry with
      | p ry => cases ry; exact ⟨_, rfl, (small62_ok h62).1, (small62_ok h62).2, hR _ H1 A1 p1 k1 s1 (fun p h => by simp at h) (itr_ok _ _)⟩
    · cases hf
  · cases hf
theorem pvi_range2 {p pos : Pos} (hg : Gl X "range") (hm : X.mg "range" = none) (ha : PVA X [a, b] tA fA) (hs : starEach [a, b] X.env = [(false, eval a X.env), (false, eval b X.env)] := by rfl) (hs2 : starEach [b] X.env = [(false, eval b X.env)] := by rfl) : PVI X tg (.Call (.Name "range" p) [a, b] [] pos) (iRng2 tA) (range2I fA) := by
  refine ⟨pi_range2 hg hm ha.pa hs hs2, ?_⟩
  intro σ H A env S xs gd S' hE hS hf R hR
  obtain ⟨⟨x, S1⟩, e1, hf⟩ := Option.bind_eq_some_iff.mp hf
  refine ha.ok σ H A env S x S1 hE hS e1 _ fun us H1 A1 p1 k1 s1 r1 => ?_
  simp only at hf
  split at hf
  · split at hf
    · next h62 =>
      cases hf
      obtain ⟨y, z, rfl, ry, rz⟩ := r1.two
      cases ry with
      | p ry => cases ry; cases rz with
        | p rz => cases rz; exact ⟨_, _, rfl, ⟨(small62_ok h62.1).1, (small62_ok h62.1).2, (small62_ok h62.2).1, (small62_ok h62.2).2⟩, hR _ H1 A1 p1 k1 s1 (fun p h => by simp at h) (itr_ok _ _)⟩
    · cases hf
  · cases hf

/-! ### comprehensions -/
/-- the own slots of a comprehension's block are not set -/
def wipeE (env : Env) : List Nat → Env
  | [] => env
  | v :: vs => (wipeE env vs).set v none
theorem RE.wipe {K : PySem.W.Frag} {H : Hp} {A : List Addr} {σ : L2.St} {env : Env} (h : RE K H A σ env) : ∀ vs : List Nat, RE K H A (L2.wipe σ vs) (wipeE env vs)
  | [] => h
  | v :: vs => by
    have ih := RE.wipe h vs
    refine ⟨by simp [L2.wipe, wipeE, ih.1], fun j t e => ?_⟩
    unfold wipeE at e
    unfold L2.wipe
    by_cases hj : v = j
    · subst hj
      by_cases hl : v < (wipeE env vs).length
      · rw [List.getElem?_set_self hl] at e; cases e
      · rw [List.getElem?_eq_none (by simpa using hl)] at e; cases e
    · rw [List.getElem?_set_ne hj] at e
      obtain ⟨x, e1, r⟩ := ih.2 j t e
      exact ⟨x, by rw [List.getElem?_set_ne hj]; exact e1, r⟩
structure PVTs (X : Cx) (ifs : List Expr) (t : TT) (f : TF) : Prop where
  pt : PTs X ifs t
  ok : TOk X.K t f
def yesT : TF := fun _ S => some (true, S)
theorem pvts_nil : PVTs X [] tYes yesT := ⟨pts_nil, fun σ H A env S r S' hE hS h Q hq => by cases h; exact hq H A (Pre.refl A) (Keep.refl H) hS⟩
theorem pvts_one (h : PVT X c t f) : PVTs X [c] t f := ⟨pts_one h.pt, h.ok⟩
/-- a target by the comprehension's own slots: how it sets them -/
structure OwnG (g : TG) (vs : List Nat) : Prop where
  wp : ∀ (v : V) (σ : L2.St) (H : Hp) (Q : L2.St → Hp → Prop), g v σ H (fun σ' H' => L2.wipe σ' vs = L2.wipe σ vs → Q σ' H') → g v σ H Q
  mono : ∀ (v : V) (σ : L2.St) (H : Hp) (Q Q' : L2.St → Hp → Prop), (∀ σ' H', Q σ' H' → Q' σ' H') → g v σ H Q → g v σ H Q'
structure OwnGs (g : TGs) (vs : List Nat) : Prop where
  wp : ∀ (v : List V) (σ : L2.St) (H : Hp) (Q : L2.St → Hp → Prop), g v σ H (fun σ' H' => L2.wipe σ' vs = L2.wipe σ vs → Q σ' H') → g v σ H Q
  mono : ∀ (v : List V) (σ : L2.St) (H : Hp) (Q Q' : L2.St → Hp → Prop), (∀ σ' H', Q σ' H' → Q' σ' H') → g v σ H Q → g v σ H Q'
theorem wipe_none {σ : L2.St} {i : Nat} : ∀ {vs : List Nat}, i ∈ vs → i < σ.length → (L2.wipe σ vs)[i]? = some none
  | v :: vs, h, hl => by
    unfold L2.wipe
    by_cases hv : v = i
    · subst hv
      exact List.getElem?_set_self (by rw [wipe_length]; exact hl)
    · rw [List.getElem?_set_ne hv]
      rcases List.mem_cons.mp h with e | h
      · exact absurd e.symm hv
      · exact wipe_none h hl
theorem wipe_ext {σ τ : L2.St} {vs : List Nat} (hl : σ.length = τ.length) (h : ∀ i, i ∉ vs → σ[i]? = τ[i]?) : L2.wipe σ vs = L2.wipe τ vs := by
  refine List.ext_getElem? fun i => ?_
  by_cases hi : i ∈ vs
  · by_cases hlt : i < σ.length
    · rw [wipe_none hi hlt, wipe_none hi (hl ▸ hlt)]
    · rw [List.getElem?_eq_none (by rw [wipe_length]; omega), List.getElem?_eq_none (by rw [wipe_length]; omega)]
  · rw [wipe_out hi, wipe_out hi, h i hi]
theorem wipe_wipe (σ : L2.St) (vs : List Nat) : L2.wipe (L2.wipe σ vs) vs = L2.wipe σ vs := wipe_ext (by rw [wipe_length]) fun i hi => wipe_out hi
theorem own_name {i : Nat} {vs : List Nat} (hi : i ∈ vs) : OwnG (gName i) vs :=
  ⟨fun v σ H Q h => h (wipe_ext (by simp) fun j hj => List.getElem?_set_ne (fun e => hj (by rw [← e]; exact hi))), fun v σ H Q Q' q h => q _ _ h⟩
theorem own_nil {vs : List Nat} : OwnGs gNil vs := ⟨fun v σ H Q h => ⟨h.1, h.2 rfl⟩, fun v σ H Q Q' q h => ⟨h.1, q _ _ h.2⟩⟩
theorem own_cons {g : TG} {gs : TGs} {vs : List Nat} (h1 : OwnG g vs) (h2 : OwnGs gs vs) : OwnGs (gCons g gs) vs := by
  refine ⟨fun v σ H Q h => ?_, fun v σ H Q Q' q h => ?_⟩
  · obtain ⟨x, r, e, h⟩ := h
    refine ⟨x, r, e, h1.wp _ _ _ _ (h1.mono _ _ _ _ _ (fun σ' H' z w => ?_) h)⟩
    exact h2.wp _ _ _ _ (h2.mono _ _ _ _ _ (fun σ2 H2 y z2 => y (z2.trans w)) z)
  · obtain ⟨x, r, e, h⟩ := h
    exact ⟨x, r, e, h1.mono _ _ _ _ _ (fun σ' H' z => h2.mono _ _ _ _ _ q z) h⟩
theorem own_tup {K : PySem.W.Frag} {n : Nat} {gs : TGs} {vs : List Nat} (h : OwnGs gs vs) : OwnG (gTup K n gs) vs := by
  refine ⟨fun v σ H Q q => ?_, fun v σ H Q Q' q h' => ?_⟩
  · obtain ⟨a, xs, e, s, l, q⟩ := q
    exact ⟨a, xs, e, s, l, h.wp _ _ _ _ q⟩
  · obtain ⟨a, xs, e, s, l, q'⟩ := h'
    exact ⟨a, xs, e, s, l, h.mono _ _ _ _ _ q q'⟩
/-- the store without its object number m, a list, and the list -/
def unsnoc (m : Nat) (S : Sto) : Option (Sto × List D) := match S[m]? with
  | some (.lst xs) => some (S.take m, xs)
  | _ => none
theorem unsnoc_app {m : Nat} {S : Sto} {xs : List D} (h : S.length = m) : unsnoc m (S ++ [.lst xs]) = some (S, xs) := by
  subst h
  simp [unsnoc]
open Classical in
noncomputable def lcGo (g : GF) (ft : TF) (fe : EF) (env : Env) (m : Nat) (gd : Gd) : List D → List D → Sto → Option (List D × Sto)
  | [], acc, S => if GdOk gd S then some (acc, S) else none
  | x :: xs, acc, S => if GdOk gd S then (g (.p x) env (S ++ [.lst acc])).bind fun y => (ft y.1 y.2).bind fun b => if b.1 = true then
      (fe y.1 b.2).bind fun z => match z.1 with
        | .p d => (unsnoc m z.2).bind fun w => if w.2.length < sizeLine then lcGo g ft fe env m gd xs (w.2 ++ [d]) w.1 else none
        | _ => none
      else (unsnoc m b.2).bind fun w => lcGo g ft fe env m gd xs w.2 w.1 else none
noncomputable def lcF (fi : IF) (g : GF) (ft : TF) (fe : EF) (vs : List Nat) : EF := fun env S => (fi env S).bind fun it => (lcGo g ft fe (wipeE env vs) it.2.2.length it.2.1 it.1 [] it.2.2).map fun z => (.loc it.2.2.length, z.2 ++ [.lst z.1])
theorem RS.unsnoc {K : PySem.W.Frag} {H : Hp} {A : List Addr} {S S' : Sto} {m : Nat} {xs : List D} (hs : RS K H A S) (h : Pv.unsnoc m S = some (S', xs)) : S' = S.take m ∧ S'.length = m ∧ S[m]? = some (.lst xs) := by
  unfold Pv.unsnoc at h
  split at h
  · next ys q =>
    cases h
    have := (List.getElem?_eq_some_iff.mp q).1
    exact ⟨rfl, by rw [List.length_take]; omega, q⟩
  · cases h
theorem take_snoc {α : Type} {A : List α} {m : Nat} {d : α} (h : A[m]? = some d) : A.take (m + 1) = A.take m ++ [d] := by
  rw [List.take_succ, h]; rfl
theorem lc_ok {K : PySem.W.Frag} {wi : TI} {g : TG} {tt : TT} {te : TE} {fi : IF} {fg : GF} {ft : TF} {fe : EF} {vs : List Nat} (hi : IOk K wi fi) (hg : GOk K g fg) (og : OwnG g vs) (ht : TOk K tt ft) (he : EOk K te fe) : EOk K (tLc wi g tt te vs) (lcF fi fg ft fe vs) := by
  intro σ H A env S v S' hE hS hf Q hq
  obtain ⟨⟨xs, gd, S1⟩, e1, hf⟩ := Option.bind_eq_some_iff.mp hf
  obtain ⟨⟨fin, S9⟩, e2, hf⟩ := Option.map_eq_some_iff.mp hf
  cases hf
  refine hi σ H A env S xs gd S1 hE hS e1 _ fun J H1 A1 p1 k1 r1 gl J1 => ?_
  intro D hD
  have kD : Keep H1 (upd H1 D (.lst [])) := Keep.new hD
  have m1 : A1.length = S1.length := r1.len
  refine ⟨fun i m H2 => m = xs.length - i ∧ i ≤ xs.length ∧ ∃ A2 S2 acc, Keep H1 H2 ∧ Pre A1 A2 ∧ S2.length = S1.length ∧ RS K H2 (A2 ++ [D]) (S2 ++ [.lst acc]) ∧ lcGo fg ft fe (wipeE env vs) S1.length gd (xs.drop i) acc S2 = some (fin, S9),
    ⟨xs.length, by simp, Nat.zero_le _, A1, S1, [], kD, Pre.refl _, rfl, r1.newL hD .nil, e2⟩, ?_⟩
  rintro i m H2 ⟨rfl, hil, A2, S2, acc, k2, p2, l2, r2, hf2⟩
  have la : A2.length = S2.length := by have := r2.len; simp at this; exact this
  have gA : ∀ p ∈ gd, (A2 ++ [D])[p.1]? = A1[p.1]? := fun p hp => by
    have h1 := gl p hp
    rw [(p2.trans (Pre.app A2 [D])) p.1 _ (List.getElem?_eq_getElem h1), List.getElem?_eq_getElem h1]
  have gG : GdOk gd S2 → GdOk gd (S2 ++ [.lst acc]) := fun h p hp => by
    rw [List.getElem?_append_left (List.getElem?_eq_some_iff.mp (h p hp)).1]
    exact h p hp
  by_cases hlt : i < xs.length
  · have hx : xs[i]? = some xs[i] := List.getElem?_eq_getElem hlt
    rw [List.drop_eq_getElem_cons hlt] at hf2
    simp only [lcGo] at hf2
    split at hf2
    · next hgd =>
      obtain ⟨⟨env3, S3⟩, e3, hf2⟩ := Option.bind_eq_some_iff.mp hf2
      obtain ⟨⟨b, S4⟩, e4, hf2⟩ := Option.bind_eq_some_iff.mp hf2
      obtain ⟨go, yl⟩ := J1.go i H2 (A2 ++ [D]) (S2 ++ [.lst acc]) xs[i] k2 r2 gA (gG hgd) hx
      refine .inr ⟨go, fun H' => i + 1 ≤ xs.length ∧ ∃ A2 S2 acc, Keep H1 H' ∧ Pre A1 A2 ∧ S2.length = S1.length ∧ RS K H' (A2 ++ [D]) (S2 ++ [.lst acc]) ∧ lcGo fg ft fe (wipeE env vs) S1.length gd (xs.drop (i + 1)) acc S2 = some (fin, S9), fun H' h' => ⟨xs.length - (i + 1), by omega, rfl, h'⟩, fun x H3 hy => ?_⟩
      obtain ⟨k3, r3, q3⟩ := yl x H3 hy
      have pB : Pre A (A2 ++ [D]) := p1.trans (p2.trans (Pre.app A2 [D]))
      have kB : Keep H H3 := k1.trans (k2.trans k3)
      refine og.wp _ _ _ _ (hg (L2.wipe σ vs) H3 (A2 ++ [D]) (wipeE env vs) _ x _ env3 S3 ((hE.keep kB pB).wipe vs) r3 (.p q3) e3 _ fun σ4 H4 A4 p4 k4 r4 q4 w4 => ⟨w4.trans (wipe_wipe σ vs), ?_⟩)
      refine ht σ4 H4 A4 env3 S3 b S4 q4 r4 e4 _ fun H5 A5 p5 k5 r5 => ?_
      have dAt : ∀ {A' : List Addr}, Pre (A2 ++ [D]) A' → A'[S1.length]? = some D := fun {A'} p => p _ _ (by rw [← l2, ← la]; simp)
      cases b with
      | true =>
        rw [if_pos rfl]
        simp only [if_true] at hf2
        obtain ⟨⟨z, S6⟩, e6, hf2⟩ := Option.bind_eq_some_iff.mp hf2
        refine he σ4 H5 A5 env3 S4 z S6 (q4.keep k5 p5) r5 e6 _ fun u H6 A6 p6 k6 r6 q6 => ?_
        simp only at hf2
        split at hf2
        · next d =>
          obtain ⟨⟨S7, acc'⟩, e7, hf2⟩ := Option.bind_eq_some_iff.mp hf2
          simp only at hf2
          split at hf2
          · next hz =>
            obtain ⟨rfl, l7, g7⟩ := r6.unsnoc e7
            have pD := dAt (p4.trans (p5.trans p6))
            obtain ⟨ws, h7, r7⟩ := r6.lstOf pD g7
            cases q6 with
            | p q6 =>
              refine ⟨ws, h7, by rw [r7.length]; exact hz, hlt, A6.take S1.length, S6.take S1.length, acc' ++ [d], ?_⟩
              have kk := Keep.put (o' := .lst (ws ++ [u])) h7 free_lst
              refine ⟨k2.trans (k3.trans (k4.trans (k5.trans (k6.trans kk)))), ?_, l7, ?_, hf2⟩
              · rw [← m1]; exact preTake ((p2.trans (Pre.app A2 [D])).trans (p4.trans (p5.trans p6)))
              · have s8 := (r6.put pD (o := .lst (ws ++ [u])) (ob := .lst (acc' ++ [d])) ⟨_, upd_same, (r7.app (.cons q6 .nil)).keep kk⟩).take (S1.length + 1)
                have e1 : A6.take (S1.length + 1) = A6.take S1.length ++ [D] := take_snoc pD
                have hl6 := (List.getElem?_eq_some_iff.mp g7).1
                have e2 : (S6.set S1.length (.lst (acc' ++ [d]))).take (S1.length + 1) = S6.take S1.length ++ [.lst (acc' ++ [d])] := by
                  rw [take_snoc (List.getElem?_set_self hl6), List.take_set_of_le (Nat.le_refl _)]
                rw [e1, e2] at s8
                exact s8
          · cases hf2
        · cases hf2
      | false =>
        rw [if_neg Bool.false_ne_true]
        simp only [Bool.false_eq_true, if_false] at hf2
        obtain ⟨⟨S7, acc'⟩, e7, hf2⟩ := Option.bind_eq_some_iff.mp hf2
        obtain ⟨rfl, l7, g7⟩ := r5.unsnoc e7
        have pD := dAt (p4.trans p5)
        refine ⟨hlt, A5.take S1.length, S4.take S1.length, acc', k2.trans (k3.trans (k4.trans k5)), ?_, l7, ?_, hf2⟩
        · rw [← m1]; exact preTake ((p2.trans (Pre.app A2 [D])).trans (p4.trans p5))
        · have s8 := r5.take (S1.length + 1)
          rw [take_snoc pD, take_snoc g7] at s8
          exact s8
    · cases hf2
  · have e : i = xs.length := by omega
    subst e
    rw [List.drop_length] at hf2
    simp only [lcGo] at hf2
    split at hf2
    · next hgd =>
      cases hf2
      refine .inl ⟨J1.stop _ H2 _ _ k2 r2 gA (gG hgd) (Nat.le_refl _), ?_⟩
      exact hq _ H2 (A2 ++ [D]) (p1.trans (p2.trans (Pre.app A2 [D]))) (k1.trans k2) r2 (.loc (by rw [← l2, ← la]; simp))
    · cases hf2
theorem pv_lc {scope : Scope} {own : List (Str × Nat)} {ifs : List Expr} {wi : TI} {g : TG} {tt : TT} {fi : IF} {fg : GF} {ft : TF} (hc : X.calm = true) (hN : X.N.Nodup) (hi : PVI X tg it wi fi) (ok : BlkOk X.N X.env.scope scope own)
    (hg : ∀ (s : Shared) (H : Hp) (C : Addr) (cl : List (Str × Addr)) (fp : List Addr), PVG (X.blk s H scope (compEnvC scope cl C X.env) fp) tg g fg) (og : OwnG g (own.map (·.2)))
    (ht : ∀ (s : Shared) (H : Hp) (C : Addr) (cl : List (Str × Addr)) (fp : List Addr), PVTs (X.blk s H scope (compEnvC scope cl C X.env) fp) ifs tt ft)
    (he : ∀ (s : Shared) (H : Hp) (C : Addr) (cl : List (Str × Addr)) (fp : List Addr), PV (X.blk s H scope (compEnvC scope cl C X.env) fp) elt te fe) (s0 : Shared) (H0 : Hp) (hs : ∀ x, foldedSetIterable it X.env x = pure x := by intro _; rfl) :
    PV X (.ListComp elt [⟨tg, it, ifs, 0⟩] scope pos) (tLc wi g tt te (own.map (·.2))) (lcF fi fg ft fe (own.map (·.2))) :=
  ⟨pe_lc hc hN hi.pi ok (fun s H C cl fp => (hg s H C cl fp).pg) (fun s H C cl fp => (ht s H C cl fp).pt) (fun s H C cl fp => (he s H C cl fp).pe) hs,
    lc_ok hi.ok (hg s0 H0 0 [] []).ok og (ht s0 H0 0 [] []).ok (he s0 H0 0 [] []).ok⟩
/-- name = [..] on one line -/
theorem pvs_setLc (i : Nat) {y : Str} {py spos : Pos} {scope : Scope} {own : List (Str × Nat)} {ifs : List Expr} {wi : TI} {g : TG} {tt : TT} {fi : IF} {fg : GF} {ft : TF} (hc : X.calm = true) (hN : X.N.Nodup) (hyl : X.env.scope.names.lookup y = some .local)
    (hsw : swapsWith (.ListComp elt [⟨tg, it, ifs, 0⟩] scope pos) (some (.Name y py)) spos.line X.env = pure true) (hi : PVI X tg it wi fi) (ok : BlkOk X.N X.env.scope scope own)
    (hg : ∀ (s : Shared) (H : Hp) (C : Addr) (cl : List (Str × Addr)) (fp : List Addr), PVG (X.blk s H scope (compEnvC scope cl C X.env) fp) tg g fg) (og : OwnG g (own.map (·.2)))
    (ht : ∀ (s : Shared) (H : Hp) (C : Addr) (cl : List (Str × Addr)) (fp : List Addr), PVTs (X.blk s H scope (compEnvC scope cl C X.env) fp) ifs tt ft)
    (he : ∀ (s : Shared) (H : Hp) (C : Addr) (cl : List (Str × Addr)) (fp : List Addr), PV (X.blk s H scope (compEnvC scope cl C X.env) fp) elt te fe) (s0 : Shared) (H0 : Hp) (hy : X.N[i]? = some y := by rfl) (hs : ∀ x, foldedSetIterable it X.env x = pure x := by intro _; rfl) :
    PVS X (.Assign [.Name y py] (.ListComp elt [⟨tg, it, ifs, 0⟩] scope pos) spos) (tAsg (tLc wi g tt te (own.map (·.2))) (gName i)) (setS i (lcF fi fg ft fe (own.map (·.2)))) :=
  ⟨ps_setLc hc hN hy hyl hsw hi.pi ok (fun s H C cl fp => (hg s H C cl fp).pg) (fun s H C cl fp => (ht s H C cl fp).pt) (fun s H C cl fp => (he s H C cl fp).pe) hs,
    set_ok (lc_ok hi.ok (hg s0 H0 0 [] []).ok og (ht s0 H0 0 [] []).ok (he s0 H0 0 [] []).ok)⟩
end
end Pv
set_option maxHeartbeats 4000000
/-! Pv8: dicts, zip, what is walked of dicts. -/
namespace Pv
open PySem PySem.Spec PyProof.Rows L2

/-! ### dicts by data -/
def keyOf : D → Option Key
  | .int i => some (.inl i)
  | .str x => some (.inr x)
  | _ => none
def dK : Key → D
  | .inl i => .int i
  | .inr x => .str x
abbrev KD := List (Key × D)
def valD (kvs : KD) (k : Key) : Option D := (kvs.find? fun kv => decide (kv.1 = k)).map (·.2)
def putD (kvs : KD) (k : Key) (v : D) : KD := if (kvs.any fun kv => decide (kv.1 = k)) = true then kvs.map (fun kv => if kv.1 = k then (kv.1, v) else kv) else kvs ++ [(k, v)]
def dropD (kvs : KD) (k : Key) : KD := kvs.filter fun kv => decide (kv.1 ≠ k)
section
variable {K : PySem.W.Frag} {H : Hp} {A : List Addr} {S : Sto}
theorem keyOf_ok {v : V} {d : D} {k : Key} (r : Rp K H v d) (h : keyOf d = some k) : v = kV k := by
  cases r <;> cases h <;> rfl
theorem rp_key (k : Key) : Rp K H (kV k) (dK k) := by
  cases k with
  | inl i => exact .int i
  | inr x => exact .str x
theorem RKV.val {kv : List (Key × V)} {kvs : KD} (r : RKV K H kv kvs) (k : Key) : (valV kv k = none ∧ valD kvs k = none) ∨ ∃ v d, valV kv k = some v ∧ valD kvs k = some d ∧ Rp K H v d := by
  unfold valV valD
  induction r with
  | nil => exact .inl ⟨rfl, rfl⟩
  | @cons p q ps qs h t ih =>
    rw [List.find?_cons, List.find?_cons, ← h.1]
    by_cases e : p.1 = k
    · rw [decide_eq_true e]
      exact .inr ⟨_, _, rfl, rfl, h.2⟩
    · rw [decide_eq_false e]
      exact ih
theorem RKV.any {kv : List (Key × V)} {kvs : KD} (r : RKV K H kv kvs) (k : Key) : (kv.any fun z => decide (z.1 = k)) = (kvs.any fun z => decide (z.1 = k)) := by
  induction r with
  | nil => rfl
  | @cons p q ps qs h t ih => rw [List.any_cons, List.any_cons, ih, h.1]
theorem RKV.app {kv kv2 : List (Key × V)} {kvs kvs2 : KD} (r : RKV K H kv kvs) (r2 : RKV K H kv2 kvs2) : RKV K H (kv ++ kv2) (kvs ++ kvs2) := by
  induction r with
  | nil => exact r2
  | cons h t ih => exact .cons h ih
theorem RKV.put {kv : List (Key × V)} {kvs : KD} (r : RKV K H kv kvs) (k : Key) {v : V} {d : D} (q : Rp K H v d) : RKV K H (putK kv k v) (putD kvs k d) := by
  unfold putK putD
  rw [r.any]
  split
  · induction r with
    | nil => exact .nil
    | @cons p q' ps qs h t ih =>
      refine .cons ?_ ?_
      · show (if p.1 = k then (p.1, v) else p).1 = (if q'.1 = k then (q'.1, d) else q').1 ∧ Rp K H (if p.1 = k then (p.1, v) else p).2 (if q'.1 = k then (q'.1, d) else q').2
        rw [h.1]
        split
        · exact ⟨rfl, q⟩
        · exact h
      · have : ∀ {a : List (Key × V)} {b : KD}, RKV K H a b → RKV K H (a.map fun z => if z.1 = k then (z.1, v) else z) (b.map fun z => if z.1 = k then (z.1, d) else z) := fun {a b} z => by
          induction z with
          | nil => exact .nil
          | @cons p q' ps qs h t ih =>
            refine .cons ?_ ih
            show (if p.1 = k then (p.1, v) else p).1 = (if q'.1 = k then (q'.1, d) else q').1 ∧ Rp K H (if p.1 = k then (p.1, v) else p).2 (if q'.1 = k then (q'.1, d) else q').2
            rw [h.1]
            split
            · exact ⟨rfl, q⟩
            · exact h
        exact this t
  · exact r.app (.cons ⟨rfl, q⟩ .nil)
theorem RKV.drop {kv : List (Key × V)} {kvs : KD} (r : RKV K H kv kvs) (k : Key) : RKV K H (dropK kv k) (dropD kvs k) := by
  unfold dropK dropD
  induction r with
  | nil => exact .nil
  | @cons p q ps qs h t ih =>
    rw [List.filter_cons, List.filter_cons, h.1]
    split
    · exact .cons h ih
    · exact ih
theorem RKV.get {kv : List (Key × V)} {kvs : KD} (r : RKV K H kv kvs) : ∀ {i : Nat} {k : Key} {d : D}, kvs[i]? = some (k, d) → ∃ v, kv[i]? = some (k, v) ∧ Rp K H v d := by
  induction r with
  | nil => intro i k d h; simp at h
  | @cons p q ps qs h t ih =>
    intro i k d e
    cases i with
    | zero =>
      have : q = (k, d) := by simpa using e
      subst this
      obtain ⟨p1, p2⟩ := p
      have h1 : p1 = k := h.1
      subst h1
      exact ⟨p2, rfl, h.2⟩
    | succ i => exact ih (by simpa using e)
/-- a dict, locked or not -/
def dictOf (S : Sto) : T → Option KD
  | .loc n => match S[n]? with
    | some (.dic kvs) => some kvs
    | some (.lck kvs) => some kvs
    | _ => none
  | _ => none
theorem dictOf_ok {v : V} {t : T} {kvs : KD} (hs : RS K H A S) (r : Rt K H A v t) (h : dictOf S t = some kvs) : ∃ a kv, v = .ref a ∧ Rd H a (.dK kv) ∧ RKV K H kv kvs := by
  cases r with
  | p r => cases h
  | mix s r => cases h
  | ro s r => cases h
  | ft s d r => cases h
  | loc e =>
    simp only [dictOf] at h
    split at h
    · next q =>
      cases h
      obtain ⟨kv, h1, r1⟩ := hs.ob _ _ _ e q
      exact ⟨_, kv, rfl, .inl h1, r1⟩
    · next q =>
      cases h
      obtain ⟨o, kv, h1, r1⟩ := hs.ob _ _ _ e q
      exact ⟨_, kv, rfl, .inr ⟨o, h1⟩, r1⟩
    · cases h
theorem dget_of {v y : V} {t : T} {kvs : KD} {d : D} {k : Key} (hs : RS K H A S) (r : Rt K H A v t) (h : dictOf S t = some kvs) (ry : Rt K H A y (.p d)) (hk : keyOf d = some k) :
    ∃ a, v = .ref a ∧ IsD H a ∧ ((DGet H a y none ∧ valD kvs k = none) ∨ ∃ u e, DGet H a y (some u) ∧ valD kvs k = some e ∧ Rp K H u e) := by
  obtain ⟨a, kv, rfl, rd, rr⟩ := dictOf_ok hs r h
  cases ry with
  | p ry =>
    obtain rfl := keyOf_ok ry hk
    refine ⟨a, rfl, .inl ⟨kv, rd⟩, ?_⟩
    rcases rr.val k with ⟨h1, h2⟩ | ⟨u, e, h1, h2, q⟩
    · exact .inl ⟨.inl ⟨kv, k, rd, rfl, h1.symm⟩, h2⟩
    · exact .inr ⟨u, e, .inl ⟨kv, k, rd, rfl, h1.symm⟩, h2, q⟩
end
def keyT : T → Option Key
  | .p d => keyOf d
  | _ => none
theorem keyT_ok {t : T} {k : Key} (h : keyT t = some k) : ∃ d, t = .p d ∧ keyOf d = some k := by
  cases t with
  | p d => exact ⟨d, rfl, h⟩
  | loc n => cases h
  | mix ts => cases h
  | ro xs => cases h
  | ft xs => cases h
section
variable {X : Cx} {a b e c tg it o i kx vx : Expr} {es rest : List Expr} {ta tb te td ti tx tk tv : TE} {fa fb fe fd fi' fx fk fv : EF} {pos p2 : Pos} {t : TT} {f : TF} {tA : TA} {fA : AF}
/-- d[k] -/
def dgetF (fd fi : EF) : EF := fun env S => (fd env S).bind fun x => (fi env x.2).bind fun y => (dictOf y.2 x.1).bind fun kvs => (keyT y.1).bind fun k => (valD kvs k).map fun d => (.p d, y.2)
theorem pv_dget (hu : X.A.units + 1 < cLine) (ho : PV X o td fd) (hi : PV X i ti fi') (hs : NoSl i) : PV X (.Subscript o i pos) (tDGet td ti) (dgetF fd fi') := by
  refine ⟨pe_dget hu ho.pe hi.pe hs, ?_⟩
  intro σ H A env S v S' hE hS hf Q hq
  obtain ⟨⟨x, S1⟩, e1, hf⟩ := Option.bind_eq_some_iff.mp hf
  obtain ⟨⟨y, S2⟩, e2, hf⟩ := Option.bind_eq_some_iff.mp hf
  obtain ⟨kvs, e3, hf⟩ := Option.bind_eq_some_iff.mp hf
  obtain ⟨k, e4, hf⟩ := Option.bind_eq_some_iff.mp hf
  obtain ⟨d, e5, hf⟩ := Option.map_eq_some_iff.mp hf
  cases hf
  obtain ⟨dy, rfl, hk⟩ := keyT_ok e4
  refine ho.ok σ H A env S x S1 hE hS e1 _ fun u H1 A1 p1 k1 s1 r1 => ?_
  refine hi.ok σ H1 A1 env S1 _ _ (hE.keep k1 p1) s1 e2 _ fun u2 H2 A2 p2 k2 s2 r2 => ?_
  obtain ⟨a, rfl, _, h⟩ := dget_of s2 (r1.keep k2 p2) e3 r2 hk
  rcases h with ⟨_, h⟩ | ⟨w, e', g, h, q⟩
  · rw [h] at e5; cases e5
  · rw [h] at e5; cases e5
    exact ⟨a, w, rfl, g, hq _ H2 A2 (p1.trans p2) (k1.trans k2) s2 (.p q)⟩
/-- d.get(k, x) -/
def dgetxF (fd fi fx : EF) : EF := fun env S => (fd env S).bind fun x => (dictOf x.2 x.1).bind fun _ => (fi env x.2).bind fun y => (fx env y.2).bind fun z => (dictOf z.2 x.1).bind fun kvs => (keyT y.1).map fun k => match valD kvs k with
  | some d => (.p d, z.2)
  | none => (z.1, z.2)
theorem pv_dgetx {apos cpos : Pos} (hu : X.A.units + 1 < cLine) (ho : PV X o td fd) (hi : PV X i ti fi') (hx : PV X e tx fx) (m : M2 X o "get" apos i e cpos) : PV X (.Call (.Attribute o "get" apos) [i, e] [] cpos) (tDGet2 td ti tx) (dgetxF fd fi' fx) := by
  refine ⟨pe_dget2 hu ho.pe hi.pe hx.pe m, ?_⟩
  intro σ H A env S v S' hE hS hf Q hq
  obtain ⟨⟨x, S1⟩, e1, hf⟩ := Option.bind_eq_some_iff.mp hf
  obtain ⟨kvs0, e0, hf⟩ := Option.bind_eq_some_iff.mp hf
  obtain ⟨⟨y, S2⟩, e2, hf⟩ := Option.bind_eq_some_iff.mp hf
  obtain ⟨⟨z, S3⟩, e3, hf⟩ := Option.bind_eq_some_iff.mp hf
  obtain ⟨kvs, e4, hf⟩ := Option.bind_eq_some_iff.mp hf
  obtain ⟨k, e5, h9⟩ := Option.map_eq_some_iff.mp hf
  obtain ⟨dy, rfl, hk⟩ := keyT_ok e5
  refine ho.ok σ H A env S x S1 hE hS e1 _ fun u H1 A1 p1 k1 s1 r1 => ?_
  obtain ⟨a, kv, rfl, rd, rr⟩ := dictOf_ok s1 r1 e0
  refine ⟨a, rfl, .inl ⟨kv, rd⟩, ?_⟩
  refine hi.ok σ H1 A1 env S1 _ _ (hE.keep k1 p1) s1 e2 _ fun u2 H2 A2 p2 k2 s2 r2 => ?_
  refine hx.ok σ H2 A2 env S2 z S3 (hE.keep (k1.trans k2) (p1.trans p2)) s2 e3 _ fun u3 H3 A3 p3 k3 s3 r3 => ?_
  obtain ⟨a', ea, _, h⟩ := dget_of s3 (r1.keep (k2.trans k3) (p2.trans p3)) e4 (r2.keep k3 p3) hk
  cases ea
  rcases h with ⟨g, h⟩ | ⟨w, e', g, h, q⟩
  · rw [h] at h9; cases h9
    exact ⟨none, g, hq _ H3 A3 (p1.trans (p2.trans p3)) (k1.trans (k2.trans k3)) s3 r3⟩
  · rw [h] at h9; cases h9
    exact ⟨some w, g, hq _ H3 A3 (p1.trans (p2.trans p3)) (k1.trans (k2.trans k3)) s3 (.p q)⟩
/-- k in d, k not in d -/
def dinF (neg : Bool) (fi fd : EF) : EF := fun env S => (fi env S).bind fun y => (fd env y.2).bind fun x => (dictOf x.2 x.1).bind fun kvs => (keyT y.1).map fun k => (.p (.bool (if neg then !(valD kvs k).isSome else (valD kvs k).isSome)), x.2)
theorem din_ok {K : PySem.W.Frag} (hi : EOk K ti fi') (ho : EOk K td fd) : EOk K (tDIn ti td) (dinF false fi' fd) := by
  intro σ H A env S v S' hE hS hf Q hq
  obtain ⟨⟨y, S1⟩, e1, hf⟩ := Option.bind_eq_some_iff.mp hf
  obtain ⟨⟨x, S2⟩, e2, hf⟩ := Option.bind_eq_some_iff.mp hf
  obtain ⟨kvs, e3, hf⟩ := Option.bind_eq_some_iff.mp hf
  obtain ⟨k, e4, hf⟩ := Option.map_eq_some_iff.mp hf
  cases hf
  obtain ⟨dy, rfl, hk⟩ := keyT_ok e4
  refine hi σ H A env S _ S1 hE hS e1 _ fun u H1 A1 p1 k1 s1 r1 => ?_
  refine ho σ H1 A1 env S1 x _ (hE.keep k1 p1) s1 e2 _ fun u2 H2 A2 p2 k2 s2 r2 => ?_
  obtain ⟨a, rfl, _, h⟩ := dget_of s2 r2 e3 (r1.keep k2 p2) hk
  have fin : ∀ q : Bool, q = (valD kvs k).isSome → Q (.bl q) H2 := fun q e => by
    subst e; exact hq _ H2 A2 (p1.trans p2) (k1.trans k2) s2 (.p (.bl _))
  rcases h with ⟨g, h⟩ | ⟨w, e', g, h, q⟩
  · exact ⟨a, none, rfl, g, fin _ (by rw [h]; rfl)⟩
  · exact ⟨a, some w, rfl, g, fin _ (by rw [h]; rfl)⟩
theorem dnotin_ok {K : PySem.W.Frag} (hi : EOk K ti fi') (ho : EOk K td fd) : EOk K (tDNotIn ti td) (dinF true fi' fd) := by
  intro σ H A env S v S' hE hS hf Q hq
  obtain ⟨⟨y, S1⟩, e1, hf⟩ := Option.bind_eq_some_iff.mp hf
  obtain ⟨⟨x, S2⟩, e2, hf⟩ := Option.bind_eq_some_iff.mp hf
  obtain ⟨kvs, e3, hf⟩ := Option.bind_eq_some_iff.mp hf
  obtain ⟨k, e4, hf⟩ := Option.map_eq_some_iff.mp hf
  cases hf
  obtain ⟨dy, rfl, hk⟩ := keyT_ok e4
  refine hi σ H A env S _ S1 hE hS e1 _ fun u H1 A1 p1 k1 s1 r1 => ?_
  refine ho σ H1 A1 env S1 x _ (hE.keep k1 p1) s1 e2 _ fun u2 H2 A2 p2 k2 s2 r2 => ?_
  obtain ⟨a, rfl, _, h⟩ := dget_of s2 r2 e3 (r1.keep k2 p2) hk
  have fin : ∀ q : Bool, q = (!(valD kvs k).isSome) → Q (.bl q) H2 := fun q e => by
    subst e; exact hq _ H2 A2 (p1.trans p2) (k1.trans k2) s2 (.p (.bl _))
  rcases h with ⟨g, h⟩ | ⟨w, e', g, h, q⟩
  · exact ⟨a, none, rfl, g, fin _ (by rw [h]; rfl)⟩
  · exact ⟨a, some w, rfl, g, fin _ (by rw [h]; rfl)⟩
theorem pv_din (hu : X.A.units + 1 < cLine) (hi : PV X i ti fi') (ho : PV X o td fd) (hm : behindInMarks .In o = false := by rfl) : PV X (.Compare i [.In] [o] pos) (tDIn ti td) (dinF false fi' fd) := ⟨pe_cmp (pc_din hu hi.pe ho.pe) hm, din_ok hi.ok ho.ok⟩
theorem pvt_din (hu : X.A.units + 1 < cLine) (hi : PV X i ti fi') (ho : PV X o td fd) (hm : behindInMarks .In o = false := by rfl) : PVT X (.Compare i [.In] [o] pos) (tB (tDIn ti td)) (asT (dinF false fi' fd)) := ⟨pt_cmp (pc_din hu hi.pe ho.pe) hm, asT_ok (din_ok hi.ok ho.ok)⟩
theorem pvt_dnotin (hu : X.A.units + 1 < cLine) (hi : PV X i ti fi') (ho : PV X o td fd) (hm : behindInMarks .NotIn o = false := by rfl) : PVT X (.Compare i [.NotIn] [o] pos) (tB (tDNotIn ti td)) (asT (dinF true fi' fd)) := ⟨pt_cmp (pc_dnotin hu hi.pe ho.pe) hm, asT_ok (dnotin_ok hi.ok ho.ok)⟩
/-- d[k] = v -/
def dputS (fd fi fv : EF) : SF := fun _ env S => (fv env S).bind fun v => (fd env v.2).bind fun o => (fi env o.2).bind fun i => match v.1, o.1 with
  | .p d, .loc n => match i.2[n]? with
    | some (.dic kvs) => (keyT i.1).bind fun k => if kvs.length < sizeLine then some (.nx, env, (i.2.set n (.dic (putD kvs k d))).take S.length) else none
    | _ => none
  | _, _ => none
theorem pvs_dput {pos' : Pos} (hu : X.A.units + 1 < cLine) (ho : PV X o td fd) (hi : PV X i ti fi') (hv : PV X e tv fv) (hs : swapsWith e (some (.Subscript o i pos')) pos.line X.env = pure false := by rfl) : PVS X (.Assign [.Subscript o i pos'] e pos) (sDPut td ti tv) (dputS fd fi' fv) := by
  refine ⟨ps_dput hu ho.pe hi.pe hv.pe hs, ?_⟩
  intro n σ H A env S oo env' S' hn hE hS hf D hD
  obtain ⟨⟨x, S1⟩, e1, hf⟩ := Option.bind_eq_some_iff.mp hf
  obtain ⟨⟨y, S2⟩, e2, hf⟩ := Option.bind_eq_some_iff.mp hf
  obtain ⟨⟨z, S3⟩, e3, hf⟩ := Option.bind_eq_some_iff.mp hf
  refine hv.ok σ H A env S x S1 hE hS e1 _ fun u H1 A1 p1 k1 s1 r1 => ?_
  refine ho.ok σ H1 A1 env S1 y S2 (hE.keep k1 p1) s1 e2 _ fun u2 H2 A2 p2 k2 s2 r2 => ?_
  refine hi.ok σ H2 A2 env S2 z S3 (hE.keep (k1.trans k2) (p1.trans p2)) s2 e3 _ fun u3 H3 A3 p3 k3 s3 r3 => ?_
  simp only at hf
  split at hf
  · split at hf
    · next kvs q =>
      obtain ⟨k, e4, hf⟩ := Option.bind_eq_some_iff.mp hf
      split at hf
      · next hz =>
        cases hf
        obtain ⟨dy, rfl, hk⟩ := keyT_ok e4
        obtain ⟨pa, rfl, e5⟩ := (r2.keep k3 p3).locOf
        obtain ⟨kv, h6, r6⟩ := s3.ob _ _ _ e5 q
        cases r3 with
        | p r3 =>
          obtain rfl := keyOf_ok r3 hk
          cases r1 with
          | p r1 =>
            have kk := Keep.put (o' := .dK (putK kv k u)) h6 free_dK
            refine ⟨pa, _, rfl, DPut.k h6 (by rw [Paired.length r6]; exact hz), ?_⟩
            have s4 : RS X.K (upd H3 pa (.dK (putK kv k u))) A3 (S3.set _ (.dic (putD kvs k _))) := s3.put e5 ⟨_, upd_same, (r6.put k (r1.keep (k2.trans k3))).keep kk⟩
            have pA := p1.trans (p2.trans p3)
            have pT : Pre A (A3.take S.length) := by rw [← hS.len]; exact preTake pA
            exact hD _ _ (pT.sameTo n) (k1.trans (k2.trans (k3.trans kk))) (s4.take _) σ (hE.keep (k1.trans (k2.trans (k3.trans kk))) pT)
      · cases hf
    · cases hf
  · cases hf
/-- {} -/
def dnewF : EF := fun _ S => some (.loc S.length, S ++ [.dic []])
theorem dnew_ok {K : PySem.W.Frag} : EOk K tDNewK dnewF := fun σ H A env S v S' hE hS hf Q hq p hp => by
  cases hf
  exact hq _ _ _ (Pre.app A [p]) (Keep.new hp) (hS.push hp ⟨_, upd_same, .nil⟩) (.loc (by rw [← hS.len]; simp))
theorem pv_dnew : PV X (.Dict [] [] pos) tDNewK dnewF := ⟨pe_dnewK, dnew_ok⟩
/-! ### a dict is locked while it is walked -/
def lockF (i : Nat) (f : EF) : EF := fun env S => match env[i]? with
  | some (some (.loc n)) => match S[n]? with
    | some (.dic kvs) => (f env (S.set n (.lck kvs))).bind fun x => match x.2[n]? with
      | some (.lck kvs') => some (x.1, x.2.set n (.dic kvs'))
      | _ => none
    | _ => none
  | _ => none
theorem pv_lock (j : Nat) (h : PV X e te fe) : PV X e (tLockE te) (lockF j fe) := by
  refine ⟨pe_lock h.pe, ?_⟩
  intro σ H A env S v S' hE hS hf Q hq
  unfold lockF at hf
  split at hf
  · next n hj =>
    split at hf
    · next kvs q =>
      obtain ⟨⟨x, S1⟩, e1, hf⟩ := Option.bind_eq_some_iff.mp hf
      obtain ⟨v0, _, r0⟩ := hE.2 _ _ hj
      obtain ⟨a, rfl, ea⟩ := r0.locOf
      obtain ⟨kv, ha, r⟩ := hS.ob _ _ _ ea q
      refine ⟨a, .dK kv, ha, trivial, fun od => ?_⟩
      have k0 := Keep.put (o' := .frz od (.dK kv)) ha free_dK
      have s0 : RS X.K (upd H a (.frz od (.dK kv))) A (S.set n (.lck kvs)) := hS.put ea ⟨od, kv, upd_same, r.keep k0⟩
      refine h.ok σ _ A env _ x S1 (hE.keep k0 (Pre.refl A)) s0 e1 _ fun u H1 A1 p1 k1 s1 r1 => ?_
      simp only at hf
      split at hf
      · next kvs' q' =>
        cases hf
        have ha1 := k1.frd a od kv upd_same
        obtain ⟨od', kv', ha', r'⟩ := s1.ob _ _ _ (p1 _ _ ea) q'
        rw [ha1] at ha'
        cases ha'
        refine ⟨ha1, ?_⟩
        -- behind the lock
        have kT : KeepT H1 (upd H1 a (.dK kv)) := KeepT.put ha1 free_lck
        have kF : Keep H (upd H1 a (.dK kv)) := by
          refine ⟨(k0.toKeepT.trans k1.toKeepT).trans kT, fun b o' xs e => ?_⟩
          have nb : b ≠ a := fun z => by subst z; rw [ha] at e; cases e
          rw [upd_ne nb]
          exact k1.frd b o' xs (by rw [upd_ne nb]; exact e)
        have s2 : RS X.K (upd H1 a (.dK kv)) A1 (S1.set n (.dic kvs')) := s1.put (p1 _ _ ea) ⟨kv, upd_same, r'.keepT kT⟩
        exact hq u _ A1 p1 kF s2 (r1.keepT kT (Pre.refl _))
      · cases hf
    · cases hf
  · cases hf
end
end Pv
set_option maxHeartbeats 4000000
/-! Pv9: zip, dicts walked, dict comprehensions, dicts of pairs, powers, products. -/
namespace Pv
open PySem PySem.Spec PyProof.Rows L2

section
variable {X : Cx} {a b e c tg it o i kx vx : Expr} {es rest elts : List Expr} {ta tb te td ti tx tk tv : TE} {fa fb fe fd fi' fx fk fv : EF} {pos p p2 tpos : Pos} {t : TT} {f : TF} {tA : TA} {fA : AF} {kk : Nat}
/-! ### zip of two lists, of two tuples -/
def zipD (xs ys : List D) : List D := (xs.zip ys).map fun p => .tuple [p.1, p.2]
def isTupT : T → Bool
  | .p (.tuple _) => true
  | _ => false
/-- a list that is walked must stay -/
def seqG (S : Sto) : T → Option (List D × Gd)
  | .p (.tuple ds) => some (ds, [])
  | .ro xs => some (xs, [])
  | .loc n => match S[n]? with
    | some (.lst xs) => some (xs, [(n, .lst xs)])
    | _ => none
  | _ => none
def zipI (fA : AF) : IF := fun env S => (fA env S).bind fun x => match x.1 with
  | [a, b] => if isTupT a = isTupT b then (seqG x.2 a).bind fun u => (seqG x.2 b).map fun v => (zipD u.1 v.1, u.2 ++ v.2, x.2) else none
  | _ => none
/-- the walked thing stands as it stood -/
structure SqG (K : PySem.W.Frag) (H1 : Hp) (A1 : List Addr) (a : Addr) (ds : List D) (gd : Gd) : Prop where
  lt : ∀ p ∈ gd, p.1 < A1.length
  sq : ∀ (H : Hp) (A : List Addr) (S : Sto), Keep H1 H → RS K H A S → (∀ p ∈ gd, A[p.1]? = A1[p.1]?) → GdOk gd S → ∃ vs, SqL K H a vs ∧ Rps K H vs ds
theorem seqG_list {K : PySem.W.Frag} {H1 : Hp} {A1 : List Addr} {S1 : Sto} {v : V} {t : T} {ds : List D} {gd : Gd} (hs : RS K H1 A1 S1) (r : Rt K H1 A1 v t) (ht : isTupT t = false) (h : seqG S1 t = some (ds, gd)) : ∃ a, v = .ref a ∧ SqG K H1 A1 a ds gd := by
  cases r with
  | p r =>
    cases r with
    | tup s r => cases ht
    | _ => cases h
  | mix s r => cases h
  | ft s d r => cases h
  | ro s r =>
    cases h
    exact ⟨_, rfl, fun p h => by simp at h, fun H A S k _ _ _ => ⟨_, (k.rol s).sql, r.keep k⟩⟩
  | @loc n a e =>
    simp only [seqG] at h
    split at h
    · next xs q =>
      cases h
      refine ⟨a, rfl, fun p h => ?_, fun H A S k s hA hG => ?_⟩
      · rcases List.mem_cons.mp h with h | h
        · rw [h]; exact (List.getElem?_eq_some_iff.mp e).1
        · simp at h
      · obtain ⟨vs, h2, r⟩ := s.lstOf ((hA _ List.mem_cons_self).trans e) (hG _ List.mem_cons_self)
        exact ⟨vs, SqL.of h2, r⟩
    · cases h
theorem zipD_get {xs ys : List D} {i : Nat} {d : D} (h : (zipD xs ys)[i]? = some d) : ∃ x y, xs[i]? = some x ∧ ys[i]? = some y ∧ d = .tuple [x, y] := by
  unfold zipD at h
  rw [List.getElem?_map] at h
  cases g : (xs.zip ys)[i]? with
  | none => rw [g] at h; cases h
  | some q =>
    rw [g] at h
    have e : PyData.tuple [q.1, q.2] = d := Option.some.inj h
    obtain ⟨h1, h2⟩ := List.getElem?_zip_eq_some.mp g
    exact ⟨q.1, q.2, h1, h2, e.symm⟩
theorem zipD_len {xs ys : List D} {i : Nat} (h : (zipD xs ys).length ≤ i) : xs.length ≤ i ∨ ys.length ≤ i := by
  simp [zipD] at h
  omega
theorem pvi_zip (hg : Gl X "zip") (hm : X.mg "zip" = none) (ha : PVA X [a, b] tA fA) (hs : starEach [a, b] X.env = (false, eval a X.env) :: starEach [b] X.env := by rfl) (hpl : (backTo pos (starEach [b] X.env)).any (·.1) = false := by rfl) :
    PVI X (.Tuple elts kk tpos) (.Call (.Name "zip" p) [a, b] [] pos) (RZ.iZipA X.K tA) (zipI fA) := by
  refine ⟨RZ.pi_zipA hg hm ha.pa hs hpl, ?_⟩
  intro σ H A env S xs gd S' hE hS hf R hR
  obtain ⟨⟨x, S1⟩, e1, hf⟩ := Option.bind_eq_some_iff.mp hf
  refine ha.ok σ H A env S x S1 hE hS e1 _ fun us H1 A1 p1 k1 s1 r1 => ?_
  simp only at hf
  split at hf
  · next ta tb =>
    split at hf
    · next hty =>
      obtain ⟨⟨da, ga⟩, e2, hf⟩ := Option.bind_eq_some_iff.mp hf
      obtain ⟨⟨db, gb⟩, e3, hf⟩ := Option.map_eq_some_iff.mp hf
      cases hf
      obtain ⟨va, vb, rfl, ra, rb⟩ := r1.two
      cases hta : isTupT ta with
      | false =>
        obtain ⟨aa, rfl, qa⟩ := seqG_list s1 ra hta e2
        obtain ⟨ab, rfl, qb⟩ := seqG_list s1 rb (hty ▸ hta) e3
        obtain ⟨wa, sa, _⟩ := qa.sq H1 A1 _ (Keep.refl _) s1 (fun _ _ => rfl) (fun p hp => by
          cases ra with
          | loc e => simp only [seqG] at e2; split at e2 <;> cases e2; rcases List.mem_cons.mp hp with h | h; (rw [h]; assumption); simp at h
          | ro => cases e2; simp at hp
          | mix => cases e2
          | ft => cases e2
          | p r => cases r <;> first | cases hta | cases e2)
        obtain ⟨wb, sb, _⟩ := qb.sq H1 A1 _ (Keep.refl _) s1 (fun _ _ => rfl) (fun p hp => by
          cases rb with
          | loc e => simp only [seqG] at e3; split at e3 <;> cases e3; rcases List.mem_cons.mp hp with h | h; (rw [h]; assumption); simp at h
          | ro => cases e3; simp at hp
          | mix => cases e3
          | ft => cases e3
          | p r => cases r <;> first | (rw [hta] at hty; cases hty) | cases e3)
        refine ⟨aa, ab, wa, wb, rfl, .inl ⟨sa, sb, hR _ H1 A1 p1 k1 s1 (fun p hp => ?_) ⟨fun i H2 A2 S2 d k2 s2 hA hG hd => ?_, fun i H2 A2 S2 k2 s2 hA hG hl => ?_⟩⟩⟩
        · rcases List.mem_append.mp hp with h | h
          · exact qa.lt p h
          · exact qb.lt p h
        · obtain ⟨u, su, ru⟩ := qa.sq H2 A2 S2 k2 s2 (fun p hp => hA p (List.mem_append_left _ hp)) fun p hp => hG p (List.mem_append_left _ hp)
          obtain ⟨w, sw, rw'⟩ := qb.sq H2 A2 S2 k2 s2 (fun p hp => hA p (List.mem_append_right _ hp)) fun p hp => hG p (List.mem_append_right _ hp)
          obtain ⟨dx, dy, hx, hy, rfl⟩ := zipD_get hd
          obtain ⟨vx, ex, rx⟩ := ru.get hx
          obtain ⟨vy, ey, ry⟩ := rw'.get hy
          refine ⟨⟨u, w, vx, vy, su, sw, ex, ey⟩, fun y H3 hy' => ?_⟩
          obtain ⟨z, x', y', rfl, hz, rfl, f1, f2⟩ := hy'
          have g1 := f1 u su
          have g2 := f2 w sw
          rw [ex] at g1; rw [ey] at g2
          cases g1; cases g2
          exact ⟨Keep.new hz, s2.new hz, .tup (SqT.of upd_same) ((Rps.cons rx (.cons ry .nil)).keep (Keep.new hz))⟩
        · obtain ⟨u, su, ru⟩ := qa.sq H2 A2 S2 k2 s2 (fun p hp => hA p (List.mem_append_left _ hp)) fun p hp => hG p (List.mem_append_left _ hp)
          obtain ⟨w, sw, rw'⟩ := qb.sq H2 A2 S2 k2 s2 (fun p hp => hA p (List.mem_append_right _ hp)) fun p hp => hG p (List.mem_append_right _ hp)
          refine ⟨u, w, su, sw, ?_⟩
          rw [ru.length, rw'.length]
          exact zipD_len hl
      | true =>
        obtain ⟨xa, rfl⟩ : ∃ xa, ta = .p (.tuple xa) := by
          unfold isTupT at hta; split at hta
          · exact ⟨_, rfl⟩
          · cases hta
        rw [hta] at hty
        obtain ⟨xb, rfl⟩ : ∃ xa, tb = .p (.tuple xa) := by
          have hty := hty.symm
          unfold isTupT at hty; split at hty
          · exact ⟨_, rfl⟩
          · cases hty
        cases e2; cases e3
        obtain ⟨aa, wa, rfl, sa, ra⟩ := ra.tupOf
        obtain ⟨ab, wb, rfl, sb, rb⟩ := rb.tupOf
        refine ⟨aa, ab, wa, wb, rfl, .inr ⟨sa, sb, hR _ H1 A1 p1 k1 s1 (fun p hp => by simp at hp) ⟨fun i H2 A2 S2 d k2 s2 hA hG hd => ?_, fun i H2 A2 S2 k2 s2 hA hG hl => ?_⟩⟩⟩
        · obtain ⟨dx, dy, hx, hy, rfl⟩ := zipD_get hd
          obtain ⟨vx, ex, rx⟩ := (ra.keep k2).get hx
          obtain ⟨vy, ey, ry⟩ := (rb.keep k2).get hy
          have su := k2.sqt (K := X.K) sa
          have sw := k2.sqt (K := X.K) sb
          refine ⟨⟨wa, wb, vx, vy, su, sw, ex, ey⟩, fun y H3 hy' => ?_⟩
          obtain ⟨z, x', y', rfl, hz, rfl, f1, f2⟩ := hy'
          have g1 := f1 wa su
          have g2 := f2 wb sw
          rw [ex] at g1; rw [ey] at g2
          cases g1; cases g2
          exact ⟨Keep.new hz, s2.new hz, .tup (SqT.of upd_same) ((Rps.cons rx (.cons ry .nil)).keep (Keep.new hz))⟩
        · refine ⟨wa, wb, k2.sqt sa, k2.sqt sb, ?_⟩
          rw [ra.length, rb.length]
          exact zipD_len hl
    · cases hf
  · cases hf

/-! ### the keys, the values, the pairs of a locked dict -/
def lckOf (S : Sto) : T → Option (Nat × KD)
  | .loc n => match S[n]? with
    | some (.lck kvs) => some (n, kvs)
    | _ => none
  | _ => none
theorem lckOf_ok {K : PySem.W.Frag} {H : Hp} {A : List Addr} {S : Sto} {v : V} {t : T} {n : Nat} {kvs : KD} (hs : RS K H A S) (r : Rt K H A v t) (h : lckOf S t = some (n, kvs)) : ∃ a o kv, v = .ref a ∧ A[n]? = some a ∧ H a = some (.frz o (.dK kv)) ∧ RKV K H kv kvs ∧ S[n]? = some (.lck kvs) := by
  cases r with
  | p r => cases h
  | mix s r => cases h
  | ro s r => cases h
  | ft s d r => cases h
  | loc e =>
    simp only [lckOf] at h
    split at h
    · next q =>
      cases h
      obtain ⟨o, kv, h1, r1⟩ := hs.ob _ _ _ e q
      exact ⟨_, o, kv, rfl, e, h1, r1, q⟩
    · cases h
def keysI (fe : EF) : IF := fun env S => (fe env S).bind fun x => (lckOf x.2 x.1).map fun q => (q.2.map fun z => dK z.1, [(q.1, .lck q.2)], x.2)
theorem gd1 {A1 : List Addr} {n : Nat} {ob : O} {a : Addr} (e : A1[n]? = some a) : ∀ p ∈ [(n, ob)], p.1 < A1.length := fun p h => by
  rcases List.mem_cons.mp h with h | h
  · rw [h]; exact (List.getElem?_eq_some_iff.mp e).1
  · simp at h
theorem pvi_keys (he : PV X e te fe) : PVI X tg e (iKeys te) (keysI fe) := by
  refine ⟨pi_keys he.pe, ?_⟩
  intro σ H A env S xs gd S' hE hS hf R hR
  obtain ⟨⟨x, S1⟩, e1, hf⟩ := Option.bind_eq_some_iff.mp hf
  obtain ⟨⟨n, kvs⟩, e2, hf⟩ := Option.map_eq_some_iff.mp hf
  cases hf
  refine he.ok σ H A env S x _ hE hS e1 _ fun u H1 A1 p1 k1 s1 r1 => ?_
  obtain ⟨a, ob, kv, rfl, ea, ha, rr, hS1⟩ := lckOf_ok s1 r1 e2
  refine ⟨a, ob, rfl, .inl ⟨kv, ha, hR _ H1 A1 p1 k1 s1 (gd1 ea) ⟨fun i H2 A2 S2 d k2 s2 hA hG hd => ?_, fun i H2 A2 S2 k2 s2 hA hG hl => ?_⟩⟩⟩
  · have h2 := k2.frd a ob kv ha
    rw [List.getElem?_map] at hd
    cases g : kvs[i]? with
    | none => rw [g] at hd; cases hd
    | some q =>
      rw [g] at hd
      have ed : dK q.1 = d := Option.some.inj hd
      subst ed
      obtain ⟨v, ev, _⟩ := rr.get (k := q.1) (d := q.2) g
      refine ⟨⟨h2, (List.getElem?_eq_some_iff.mp ev).1⟩, fun y H3 hy => ?_⟩
      obtain ⟨rfl, k, v', ek, rfl⟩ := hy
      rw [ev] at ek; cases ek
      exact ⟨Keep.refl _, s2, rp_key _⟩
  · exact ⟨k2.frd a ob kv ha, by rw [Paired.length rr]; simpa using hl⟩
def valsI (fe : EF) : IF := fun env S => (fe env S).bind fun x => (lckOf x.2 x.1).map fun q => (q.2.map fun z => z.2, [(q.1, .lck q.2)], x.2)
theorem pvi_vals {apos cpos : Pos} (he : PV X e te fe) (hbase : attributeBase e "values" X.env (eval e X.env) = eval e X.env := by rfl) (hline : (apos.endLine == cpos.line) = true := by rfl) : PVI X tg (.Call (.Attribute e "values" apos) [] [] cpos) (iVals te) (valsI fe) := by
  refine ⟨pi_values he.pe hbase hline, ?_⟩
  intro σ H A env S xs gd S' hE hS hf R hR
  obtain ⟨⟨x, S1⟩, e1, hf⟩ := Option.bind_eq_some_iff.mp hf
  obtain ⟨⟨n, kvs⟩, e2, hf⟩ := Option.map_eq_some_iff.mp hf
  cases hf
  refine he.ok σ H A env S x _ hE hS e1 _ fun u H1 A1 p1 k1 s1 r1 => ?_
  obtain ⟨a, ob, kv, rfl, ea, ha, rr, hS1⟩ := lckOf_ok s1 r1 e2
  refine ⟨a, ob, kv, rfl, ha, hR _ H1 A1 p1 k1 s1 (gd1 ea) ⟨fun i H2 A2 S2 d k2 s2 hA hG hd => ?_, fun i H2 A2 S2 k2 s2 hA hG hl => ?_⟩⟩
  · have h2 := k2.frd a ob kv ha
    rw [List.getElem?_map] at hd
    cases g : kvs[i]? with
    | none => rw [g] at hd; cases hd
    | some q =>
      rw [g] at hd
      have ed : q.2 = d := Option.some.inj hd
      subst ed
      obtain ⟨v, ev, rv⟩ := rr.get (k := q.1) (d := q.2) g
      refine ⟨⟨h2, (List.getElem?_eq_some_iff.mp ev).1⟩, fun y H3 hy => ?_⟩
      obtain ⟨rfl, k, ek⟩ := hy
      rw [ev] at ek; cases ek
      exact ⟨Keep.refl _, s2, rv.keep k2⟩
  · exact ⟨k2.frd a ob kv ha, by rw [Paired.length rr]; simpa using hl⟩
def itemsI (fe : EF) : IF := fun env S => (fe env S).bind fun x => (lckOf x.2 x.1).map fun q => (q.2.map fun z => .tuple [dK z.1, z.2], [(q.1, .lck q.2)], x.2)
theorem pvi_items {apos cpos : Pos} (he : PV X e te fe) (hbase : attributeBase e "items" X.env (eval e X.env) = eval e X.env := by rfl) (hline : (apos.endLine == cpos.line) = true := by rfl) : PVI X (.Tuple elts kk tpos) (.Call (.Attribute e "items" apos) [] [] cpos) (iItems te) (itemsI fe) := by
  refine ⟨pi_items he.pe hbase hline, ?_⟩
  intro σ H A env S xs gd S' hE hS hf R hR
  obtain ⟨⟨x, S1⟩, e1, hf⟩ := Option.bind_eq_some_iff.mp hf
  obtain ⟨⟨n, kvs⟩, e2, hf⟩ := Option.map_eq_some_iff.mp hf
  cases hf
  refine he.ok σ H A env S x _ hE hS e1 _ fun u H1 A1 p1 k1 s1 r1 => ?_
  obtain ⟨a, ob, kv, rfl, ea, ha, rr, hS1⟩ := lckOf_ok s1 r1 e2
  refine ⟨a, ob, kv, rfl, ha, hR _ H1 A1 p1 k1 s1 (gd1 ea) ⟨fun i H2 A2 S2 d k2 s2 hA hG hd => ?_, fun i H2 A2 S2 k2 s2 hA hG hl => ?_⟩⟩
  · have h2 := k2.frd a ob kv ha
    rw [List.getElem?_map] at hd
    cases g : kvs[i]? with
    | none => rw [g] at hd; cases hd
    | some q =>
      rw [g] at hd
      have ed : PyData.tuple [dK q.1, q.2] = d := Option.some.inj hd
      subst ed
      obtain ⟨v, ev, rv⟩ := rr.get (k := q.1) (d := q.2) g
      refine ⟨⟨h2, (List.getElem?_eq_some_iff.mp ev).1⟩, fun y H3 hy => ?_⟩
      obtain ⟨z, k, v', ek, rfl, hz, rfl⟩ := hy
      rw [ev] at ek; cases ek
      exact ⟨Keep.new hz, s2.new hz, .tup (SqT.of upd_same) ((Rps.cons (rp_key _) (.cons (rv.keep k2) .nil)).keep (Keep.new hz))⟩
  · exact ⟨k2.frd a ob kv ha, by rw [Paired.length rr]; simpa using hl⟩
end
end Pv
set_option maxHeartbeats 4000000
/-! Pv10: dict comprehensions, dict of pairs, powers and products, list of a range. -/
namespace Pv
open PySem PySem.Spec PyProof.Rows L2

section
variable {X : Cx} {a b e c tg it o i kx vx : Expr} {es rest elts : List Expr} {ta tb te td ti tx tk tv : TE} {fa fb fe fd fi' fx fk fv : EF} {pos p p2 tpos : Pos} {t : TT} {f : TF} {tA : TA} {fA : AF} {kk : Nat}
/-! ### dict comprehensions -/
def unsnocD (m : Nat) (S : Sto) : Option (Sto × KD) := match S[m]? with
  | some (.dic xs) => some (S.take m, xs)
  | _ => none
theorem unsnocD_app {m : Nat} {S : Sto} {xs : KD} (h : S.length = m) : unsnocD m (S ++ [.dic xs]) = some (S, xs) := by
  subst h
  simp [unsnocD]
theorem unsnocD_ok {S S' : Sto} {m : Nat} {xs : KD} (h : unsnocD m S = some (S', xs)) : S' = S.take m ∧ S'.length = m ∧ S[m]? = some (.dic xs) := by
  unfold unsnocD at h
  split at h
  · next ys q =>
    cases h
    have := (List.getElem?_eq_some_iff.mp q).1
    exact ⟨rfl, by rw [List.length_take]; omega, q⟩
  · cases h
open Classical in
noncomputable def dcGo (g : GF) (ft : TF) (fk fv : EF) (env : Env) (m : Nat) (gd : Gd) : List D → KD → Sto → Option (KD × Sto)
  | [], acc, S => if GdOk gd S then some (acc, S) else none
  | x :: xs, acc, S => if GdOk gd S then (g (.p x) env (S ++ [.dic acc])).bind fun y => (ft y.1 y.2).bind fun b => if b.1 = true then
      (fk y.1 b.2).bind fun q => (fv y.1 q.2).bind fun z => match z.1 with
        | .p d => (keyT q.1).bind fun k => (unsnocD m z.2).bind fun w => if w.2.length < sizeLine then dcGo g ft fk fv env m gd xs (putD w.2 k d) w.1 else none
        | _ => none
      else (unsnocD m b.2).bind fun w => dcGo g ft fk fv env m gd xs w.2 w.1 else none
noncomputable def dcF (fi : IF) (g : GF) (ft : TF) (fk fv : EF) (vs : List Nat) : EF := fun env S => (fi env S).bind fun it => (dcGo g ft fk fv (wipeE env vs) it.2.2.length it.2.1 it.1 [] it.2.2).map fun z => (.loc it.2.2.length, z.2 ++ [.dic z.1])
theorem dc_ok {K : PySem.W.Frag} {wi : TI} {g : TG} {tt : TT} {fi : IF} {fg : GF} {ft : TF} {vs : List Nat} (hi : IOk K wi fi) (hg : GOk K g fg) (og : OwnG g vs) (ht : TOk K tt ft) (hk : EOk K tk fk) (he : EOk K tv fv) : EOk K (tDc wi g tt tk tv vs) (dcF fi fg ft fk fv vs) := by
  intro σ H A env S v S' hE hS hf Q hq
  obtain ⟨⟨xs, gd, S1⟩, e1, hf⟩ := Option.bind_eq_some_iff.mp hf
  obtain ⟨⟨fin, S9⟩, e2, hf⟩ := Option.map_eq_some_iff.mp hf
  cases hf
  refine hi σ H A env S xs gd S1 hE hS e1 _ fun J H1 A1 p1 k1 r1 gl J1 => ?_
  intro D hD
  have kD : Keep H1 (upd H1 D (.dK [])) := Keep.new hD
  have m1 : A1.length = S1.length := r1.len
  refine ⟨fun i m H2 => m = xs.length - i ∧ i ≤ xs.length ∧ ∃ A2 S2 acc, Keep H1 H2 ∧ Pre A1 A2 ∧ S2.length = S1.length ∧ RS K H2 (A2 ++ [D]) (S2 ++ [.dic acc]) ∧ dcGo fg ft fk fv (wipeE env vs) S1.length gd (xs.drop i) acc S2 = some (fin, S9),
    ⟨xs.length, by simp, Nat.zero_le _, A1, S1, [], kD, Pre.refl _, rfl, r1.push hD (ob := .dic []) ⟨_, upd_same, .nil⟩, e2⟩, ?_⟩
  rintro i m H2 ⟨rfl, hil, A2, S2, acc, k2, p2, l2, r2, hf2⟩
  have la : A2.length = S2.length := by have := r2.len; simp at this; exact this
  have gA : ∀ p ∈ gd, (A2 ++ [D])[p.1]? = A1[p.1]? := fun p hp => by
    have h1 := gl p hp
    rw [(p2.trans (Pre.app A2 [D])) p.1 _ (List.getElem?_eq_getElem h1), List.getElem?_eq_getElem h1]
  have gG : GdOk gd S2 → GdOk gd (S2 ++ [.dic acc]) := fun h p hp => by
    rw [List.getElem?_append_left (List.getElem?_eq_some_iff.mp (h p hp)).1]
    exact h p hp
  by_cases hlt : i < xs.length
  · have hx : xs[i]? = some xs[i] := List.getElem?_eq_getElem hlt
    rw [List.drop_eq_getElem_cons hlt] at hf2
    simp only [dcGo] at hf2
    split at hf2
    · next hgd =>
      obtain ⟨⟨env3, S3⟩, e3, hf2⟩ := Option.bind_eq_some_iff.mp hf2
      obtain ⟨⟨b, S4⟩, e4, hf2⟩ := Option.bind_eq_some_iff.mp hf2
      obtain ⟨go, yl⟩ := J1.go i H2 (A2 ++ [D]) (S2 ++ [.dic acc]) xs[i] k2 r2 gA (gG hgd) hx
      refine .inr ⟨go, fun H' => i + 1 ≤ xs.length ∧ ∃ A2 S2 acc, Keep H1 H' ∧ Pre A1 A2 ∧ S2.length = S1.length ∧ RS K H' (A2 ++ [D]) (S2 ++ [.dic acc]) ∧ dcGo fg ft fk fv (wipeE env vs) S1.length gd (xs.drop (i + 1)) acc S2 = some (fin, S9), fun H' h' => ⟨xs.length - (i + 1), by omega, rfl, h'⟩, fun x H3 hy => ?_⟩
      obtain ⟨k3, r3, q3⟩ := yl x H3 hy
      have pB : Pre A (A2 ++ [D]) := p1.trans (p2.trans (Pre.app A2 [D]))
      have kB : Keep H H3 := k1.trans (k2.trans k3)
      refine og.wp _ _ _ _ (hg (L2.wipe σ vs) H3 (A2 ++ [D]) (wipeE env vs) _ x _ env3 S3 ((hE.keep kB pB).wipe vs) r3 (.p q3) e3 _ fun σ4 H4 A4 p4 k4 r4 q4 w4 => ⟨w4.trans (wipe_wipe σ vs), ?_⟩)
      refine ht σ4 H4 A4 env3 S3 b S4 q4 r4 e4 _ fun H5 A5 p5 k5 r5 => ?_
      have dAt : ∀ {A' : List Addr}, Pre (A2 ++ [D]) A' → A'[S1.length]? = some D := fun {A'} p => p _ _ (by rw [← l2, ← la]; simp)
      cases b with
      | true =>
        rw [if_pos rfl]
        simp only [if_true] at hf2
        obtain ⟨⟨q, S5⟩, e5, hf2⟩ := Option.bind_eq_some_iff.mp hf2
        obtain ⟨⟨z, S6⟩, e6, hf2⟩ := Option.bind_eq_some_iff.mp hf2
        refine hk σ4 H5 A5 env3 S4 q S5 (q4.keep k5 p5) r5 e5 _ fun u0 H6 A6 p6 k6 r6 q6 => ?_
        refine he σ4 H6 A6 env3 S5 z S6 (q4.keep (k5.trans k6) (p5.trans p6)) r6 e6 _ fun u H7 A7 p7 k7 r7 q7 => ?_
        simp only at hf2
        split at hf2
        · next d =>
          obtain ⟨k, ek, h8⟩ := Option.bind_eq_some_iff.mp hf2
          obtain ⟨⟨S8, acc'⟩, e7, h9⟩ := Option.bind_eq_some_iff.mp h8
          simp only at h9
          split at h9
          · next hz =>
            obtain ⟨rfl, l7, g7⟩ := unsnocD_ok e7
            obtain ⟨dk, rfl, hdk⟩ := keyT_ok ek
            have pD := dAt (p4.trans (p5.trans (p6.trans p7)))
            obtain ⟨ws, h7, rr7⟩ := r7.ob _ _ _ pD g7
            cases q6 with
            | p q6 =>
              obtain rfl := keyOf_ok q6 hdk
              cases q7 with
              | p q7 =>
                refine ⟨ws, k, rfl, h7, by rw [Paired.length rr7]; exact hz, hlt, A7.take S1.length, S6.take S1.length, putD acc' k d, ?_⟩
                have kk := Keep.put (o' := .dK (putK ws k u)) h7 free_dK
                refine ⟨k2.trans (k3.trans (k4.trans (k5.trans (k6.trans (k7.trans kk))))), ?_, l7, ?_, h9⟩
                · rw [← m1]; exact preTake ((p2.trans (Pre.app A2 [D])).trans (p4.trans (p5.trans (p6.trans p7))))
                · have s8 := (r7.put pD (o := .dK (putK ws k u)) (ob := .dic (putD acc' k d)) ⟨_, upd_same, (rr7.put k q7).keep kk⟩).take (S1.length + 1)
                  have hl6 := (List.getElem?_eq_some_iff.mp g7).1
                  have e2 : (S6.set S1.length (.dic (putD acc' k d))).take (S1.length + 1) = S6.take S1.length ++ [.dic (putD acc' k d)] := by
                    rw [take_snoc (List.getElem?_set_self hl6), List.take_set_of_le (Nat.le_refl _)]
                  rw [take_snoc pD, e2] at s8
                  exact s8
          · cases h9
        · cases hf2
      | false =>
        rw [if_neg Bool.false_ne_true]
        simp only [Bool.false_eq_true, if_false] at hf2
        obtain ⟨⟨S7, acc'⟩, e7, hf2⟩ := Option.bind_eq_some_iff.mp hf2
        obtain ⟨rfl, l7, g7⟩ := unsnocD_ok e7
        have pD := dAt (p4.trans p5)
        refine ⟨hlt, A5.take S1.length, S4.take S1.length, acc', k2.trans (k3.trans (k4.trans k5)), ?_, l7, ?_, hf2⟩
        · rw [← m1]; exact preTake ((p2.trans (Pre.app A2 [D])).trans (p4.trans p5))
        · have s8 := r5.take (S1.length + 1)
          rw [take_snoc pD, take_snoc g7] at s8
          exact s8
    · cases hf2
  · have e : i = xs.length := by omega
    subst e
    rw [List.drop_length] at hf2
    simp only [dcGo] at hf2
    split at hf2
    · next hgd =>
      cases hf2
      refine .inl ⟨J1.stop _ H2 _ _ k2 r2 gA (gG hgd) (Nat.le_refl _), ?_⟩
      exact hq _ H2 (A2 ++ [D]) (p1.trans (p2.trans (Pre.app A2 [D]))) (k1.trans k2) r2 (.loc (by rw [← l2, ← la]; simp))
    · cases hf2
theorem pv_dc {scope : Scope} {own : List (Str × Nat)} {ifs : List Expr} {wi : TI} {g : TG} {tt : TT} {fi : IF} {fg : GF} {ft : TF} (hc : X.calm = true) (hN : X.N.Nodup) (hi : PVI X tg it wi fi) (ok : BlkOk X.N X.env.scope scope own)
    (hg : ∀ (s : Shared) (H : Hp) (C : Addr) (cl : List (Str × Addr)) (fp : List Addr), PVG (X.blk s H scope (compEnvC scope cl C X.env) fp) tg g fg) (og : OwnG g (own.map (·.2)))
    (ht : ∀ (s : Shared) (H : Hp) (C : Addr) (cl : List (Str × Addr)) (fp : List Addr), PVTs (X.blk s H scope (compEnvC scope cl C X.env) fp) ifs tt ft)
    (hk : ∀ (s : Shared) (H : Hp) (C : Addr) (cl : List (Str × Addr)) (fp : List Addr), PV (X.blk s H scope (compEnvC scope cl C X.env) fp) kx tk fk)
    (he : ∀ (s : Shared) (H : Hp) (C : Addr) (cl : List (Str × Addr)) (fp : List Addr), PV (X.blk s H scope (compEnvC scope cl C X.env) fp) vx tv fv) (s0 : Shared) (H0 : Hp) (hs : ∀ x, foldedSetIterable it X.env x = pure x := by intro _; rfl) :
    PV X (.DictComp kx vx [⟨tg, it, ifs, 0⟩] scope pos) (tDc wi g tt tk tv (own.map (·.2))) (dcF fi fg ft fk fv (own.map (·.2))) :=
  ⟨pe_dc hc hN hi.pi ok (fun s H C cl fp => (hg s H C cl fp).pg) (fun s H C cl fp => (ht s H C cl fp).pt) (fun s H C cl fp => (hk s H C cl fp).pe) (fun s H C cl fp => (he s H C cl fp).pe) hs,
    dc_ok hi.ok (hg s0 H0 0 [] []).ok og (ht s0 H0 0 [] []).ok (hk s0 H0 0 [] []).ok (he s0 H0 0 [] []).ok⟩

/-! ### dict(list of pairs), dict() -/
def pairOf : D → Option (Key × D)
  | .tuple [k, v] => (keyOf k).map fun q => (q, v)
  | _ => none
def pairsOf : List D → Option KD
  | [] => some []
  | d :: ds => (pairOf d).bind fun q => (pairsOf ds).map fun r => q :: r
def mergeD (kvs more : KD) : KD := more.foldl (fun acc kv => putD acc kv.1 kv.2) kvs
theorem pairOf_ok {K : PySem.W.Frag} {H : Hp} {v : V} {d : D} {q : Key × D} (r : Rp K H v d) (h : pairOf d = some q) : ∃ a u, v = .ref a ∧ SqT K H a [kV q.1, u] ∧ Rp K H u q.2 := by
  unfold pairOf at h
  split at h
  · obtain ⟨k, e, h⟩ := Option.map_eq_some_iff.mp h
    subst h
    cases r with
    | tup s r =>
      cases r with
      | cons r1 r2 =>
        cases r2 with
        | cons r2 r3 =>
          cases r3
          obtain rfl := keyOf_ok r1 e
          exact ⟨_, _, rfl, s, r2⟩
  · cases h
theorem pairsOf_ok {K : PySem.W.Frag} {H : Hp} : ∀ {vs : List V} {ds : List D} {kvs : KD}, Rps K H vs ds → pairsOf ds = some kvs → ∃ (ps : List Addr) (kv : List (Key × V)), vs = ps.map V.ref ∧ Paired (fun p kv => SqT K H p [kV kv.1, kv.2]) ps kv ∧ RKV K H kv kvs
  | _, [], _, r, h => by cases h; cases r; exact ⟨[], [], rfl, .nil, .nil⟩
  | _, d :: ds, _, r, h => by
    obtain ⟨q, e1, h⟩ := Option.bind_eq_some_iff.mp h
    obtain ⟨kvs, e2, h⟩ := Option.map_eq_some_iff.mp h
    subst h
    cases r with
    | cons r1 r2 =>
      obtain ⟨a, u, rfl, s, q1⟩ := pairOf_ok r1 e1
      obtain ⟨ps, kv, rfl, q2, q3⟩ := pairsOf_ok r2 e2
      exact ⟨a :: ps, (q.1, u) :: kv, rfl, .cons s q2, .cons ⟨rfl, q1⟩ q3⟩
theorem RKV.merge {K : PySem.W.Frag} {H : Hp} {m : List (Key × V)} {ms : KD} (h : RKV K H m ms) : ∀ {kv : List (Key × V)} {kvs : KD}, RKV K H kv kvs → RKV K H (mergeK kv m) (mergeD kvs ms) := by
  induction h with
  | nil => exact fun r => r
  | @cons p q ps qs h t ih =>
    intro kv kvs r
    exact ih (kv := putK kv p.1 p.2) (kvs := putD kvs q.1 q.2) (by rw [h.1]; exact r.put q.1 h.2)
def dictT : DF := fun ts S => match ts with
  | [t] => ((lstOf S t).bind pairsOf).map fun kvs => (.loc S.length, S ++ [.dic (mergeD [] kvs)])
  | _ => none
theorem dict_ok {K : PySem.W.Frag} : CallOk K (fun xs H Q => ∃ (a : Addr) (ps : List Addr) (kvs : List (Key × V)), xs = [.ref a] ∧ SqL K H a (ps.map V.ref) ∧ Paired (fun p kv => SqT K H p [kV kv.1, kv.2]) ps kvs ∧ ∀ p, H p = none → Q (.ref p) (upd H p (.dK (mergeK [] kvs)))) dictT := by
  intro H A S vs ts v S' hs rs h Q hq
  unfold dictT at h
  split at h
  · obtain ⟨x, rfl, r⟩ := rs.one
    obtain ⟨kvs, e, h⟩ := Option.map_eq_some_iff.mp h
    obtain ⟨ds, e1, e2⟩ := Option.bind_eq_some_iff.mp e
    cases h
    obtain ⟨a, ws, rfl, hl, r1⟩ := lstOf_ok hs r e1
    obtain ⟨ps, kv, rfl, q2, q3⟩ := pairsOf_ok r1 e2
    exact ⟨a, ps, kv, rfl, hl, q2, fun z hz => hq _ _ _ (Pre.app A [z]) (Keep.new hz) (hs.push hz ⟨_, upd_same, ((RKV.merge q3 (kv := []) (kvs := []) .nil)).keep (Keep.new hz)⟩) (.loc (by rw [← hs.len]; simp))⟩
  · cases h

/-! ### powers, products -/
def CPowA (i j : Int) : Prop := CPow i j ∨ (0 ≤ j ∧ (Builtin.Int.intBits i : Int) * j ≤ 2 ^ 27)
instance {i j : Int} : Decidable (CPowA i j) := inferInstanceAs (Decidable (_ ∨ _))
theorem op_powA : OpR X (binaryOp .Pow) (rI CPowA fun i j => .int (i ^ j.toNat)) := opI fun _ _ _ _ _ _ _ hc q => by
  rcases hc with hc | hc
  · exact pow_int_small hc.1 hc.2.1 hc.2.2 q
  · exact pow_int hc.1 hc.2 q
abbrev powA : Op2 := iop fun i j => if CPowA i j then some (.int (i ^ j.toNat)) else none
theorem pv_powA (ha : PV X a ta fa) (hb : PV X b tb fb) : PV X (.BinOp a .Pow b pos) (tOp (rI CPowA fun i j => .int (i ^ j.toNat)) ta tb) (binF powA fa fb) := pv_op op_powA (iop_ok fun i j H => .int _) ha hb
/-! list(range(..)) -/
end
end Pv
set_option maxHeartbeats 4000000
/-! Pv11: sorted of ints, of pairs of ints: lists, tuples, what a dict holds. -/
namespace Pv
open PySem PySem.Spec PyProof.Rows L2

/-! ### one sorted list -/
def sortI (ns : List Int) : List Int := ns.mergeSort fun a b => decide (a ≤ b)
theorem sortI_perm (ns : List Int) : (sortI ns).Perm ns := List.mergeSort_perm ns _
theorem sortI_le (ns : List Int) : (sortI ns).Pairwise (· ≤ ·) := by
  have h := List.pairwise_mergeSort (le := fun (a b : Int) => decide (a ≤ b)) (fun a b c h1 h2 => by simp at *; omega) (fun a b => by simp; omega) ns
  exact h.imp fun {a b} q => of_decide_eq_true q
theorem sortI_uniq {ms ns : List Int} (h : ms.Perm ns) (s : ms.Pairwise (· ≤ ·)) : ms = sortI ns := PySem.W.ksm_same (h.trans (sortI_perm ns).symm) s (sortI_le ns)
def lexLe (p q : Int × Int) : Bool := !SrtO.lexB q p
def sortP (ps : List (Int × Int)) : List (Int × Int) := ps.mergeSort lexLe
theorem lexLe_iff {p q : Int × Int} : lexLe p q = true ↔ p.1 < q.1 ∨ (p.1 = q.1 ∧ p.2 ≤ q.2) := by
  unfold lexLe
  cases h : SrtO.lexB q p with
  | true => have := SrtO.lexB_iff.mp h; simp; omega
  | false => have := SrtO.lexB_no.mp h; simp; omega
theorem sortP_perm (ps : List (Int × Int)) : (sortP ps).Perm ps := List.mergeSort_perm ps _
theorem sortP_le (ps : List (Int × Int)) : (sortP ps).Pairwise fun p q => lexLe p q = true :=
  List.pairwise_mergeSort (le := lexLe) (fun a b c h1 h2 => by rw [lexLe_iff] at *; omega) (fun a b => by
    cases h : lexLe a b with
    | true => rfl
    | false =>
      have : ¬ lexLe a b = true := by rw [h]; exact Bool.false_ne_true
      rw [lexLe_iff] at this
      rw [Bool.false_or, lexLe_iff]; omega) ps
theorem sortP_uniq {ms ns : List (Int × Int)} (h : ms.Perm ns) (s : ms.Pairwise fun p q => lexLe p q = true) : ms = sortP ns := by
  refine List.Perm.eq_of_pairwise (le := fun p q => lexLe p q = true) (fun x y _ _ h1 h2 => ?_) s (sortP_le ns) (h.trans (sortP_perm ns).symm)
  rw [lexLe_iff] at h1 h2
  exact Prod.ext (by omega) (by omega)
/-- a pair of ints as data -/
def pairI (p : Int × Int) : D := .tuple [.int p.1, .int p.2]
def pairsI : List D → Option (List (Int × Int))
  | [] => some []
  | .tuple [.int i, .int j] :: ds => (pairsI ds).map fun r => (i, j) :: r
  | _ :: _ => none
theorem pairsI_map : ∀ ps : List (Int × Int), pairsI (ps.map pairI) = some ps
  | [] => rfl
  | p :: ps => by show (pairsI (ps.map pairI)).map _ = _; rw [pairsI_map ps]; rfl
theorem pairsI_eq : ∀ {ds : List D} {ps : List (Int × Int)}, pairsI ds = some ps → ds = ps.map pairI := by
  intro ds
  induction ds with
  | nil => intro ps h; cases h; rfl
  | cons d ds ih =>
    intro ps h
    unfold pairsI at h
    split at h
    · next h0 => cases h0
    · next i j ds' h0 =>
      cases h0
      obtain ⟨r, e, h⟩ := Option.map_eq_some_iff.mp h
      subst h
      rw [ih e]; rfl
    · cases h
/-- sorted, of what there is a rule for -/
def sortD (ds : List D) : Option (List D) := match intsOf ds with
  | some ns => some ((sortI ns).map PyData.int)
  | none => (pairsI ds).map fun ps => (sortP ps).map pairI
theorem sortD_ints (ns : List Int) : sortD (ns.map PyData.int) = some ((sortI ns).map PyData.int) := by unfold sortD; rw [intsOf_map]
theorem sortD_pairs (ps : List (Int × Int)) (h : ps ≠ []) : sortD (ps.map pairI) = some ((sortP ps).map pairI) := by
  cases ps with
  | nil => exact absurd rfl h
  | cons p ps =>
    have : intsOf ((p :: ps).map pairI) = none := rfl
    unfold sortD
    rw [this, pairsI_map]
    rfl

section
variable {X : Cx} {pins : List (Addr × Obj)} {σ : L2.St} {H : Hp} {s : Shared}
/-- the context one call deeper -/
abbrev deep1 (X : Cx) : Cx := { X with A := X.A.in1 }
theorem inv1 (I : Inv X pins σ H s) : Inv (deep1 X) pins σ H s :=
  ⟨⟨I.ok.mod, I.ok.kind, I.ok.glob, I.ok.blt, I.ok.above, I.ok.inj, I.ok.has, I.ok.cab, I.ok.hd, I.ok.frames, I.ok.stk, I.ok.exf, I.ok.bs, I.ok.bsz, I.ok.noex, I.ok.exfs, I.ok.funs, I.ok.frf⟩, I.os, I.bare, I.base, I.loc, I.cell, I.free, I.freeC, I.pin, I.hok, I.len⟩
theorem inv0 (I : Inv (deep1 X) pins σ H s) (ok : X.Ok) : Inv X pins σ H s := ⟨ok, I.os, I.bare, I.base, I.loc, I.cell, I.free, I.freeC, I.pin, I.hok, I.len⟩
/-! list.sort by data -/
def kf (h : Heap) : Value → Int × Int
  | .ref a => match h.get? a with
    | some o => match o.data with
      | .seq its _ => match its[0]?, its[1]? with
        | some (Value.int i _), some (Value.int j _) => (i, j)
        | _, _ => (0, 0)
      | _ => (0, 0)
    | none => (0, 0)
  | _ => (0, 0)
theorem kf_pair {h : Heap} {v : Value} {i j : Int} (p : Srt.IsPair h v i j) : kf h v = (i, j) := by
  obtain ⟨a, o, t, u, n, rfl, ho, hc, hd⟩ := p
  simp only [kf, ho, hd]
  rfl
theorem pairs_at {X : Cx} {pins : List (Addr × Obj)} {σ : L2.St} {H : Hp} {s : Shared} (I : Inv X pins σ H s) : ∀ {items : List V} {its : List Value} {ps : List (Int × Int)}, Vals items its → Rps X.K H items (ps.map pairI) →
    its.map (kf s.heap) = ps ∧ items = its.map backV ∧ ∀ v ∈ its, (∃ a, v = Value.ref a) ∧ Srt.IsPair s.heap v (kf s.heap v).1 (kf s.heap v).2 ∧ Rp X.K H (backV v) (pairI (kf s.heap v))
  | _, _, [], r, q => by cases q; cases r; exact ⟨rfl, rfl, fun v h => by simp at h⟩
  | _, _, p :: ps, r, q => by
    cases q with
    | cons q1 q2 =>
      cases r with
      | cons r1 r2 =>
        obtain ⟨h1, h2, h3⟩ := pairs_at I r2 q2
        have q1' := q1
        cases q1 with
        | @tup a vs _ s1 rr =>
          obtain ⟨us, rv, ⟨o, ho, hc, n, hd⟩, _⟩ := I.tuple s1
          cases rr with
          | cons x1 rr =>
            cases rr with
            | cons x2 rr =>
              cases rr; cases x1; cases x2
              obtain ⟨u1, u2, rfl, ri, rj⟩ := vals2 rv
              obtain ⟨t1, rfl⟩ := ri
              obtain ⟨t2, rfl⟩ := rj
              cases r1
              have ip : Srt.IsPair s.heap (.ref a) p.1 p.2 := ⟨a, o, t1, t2, n, rfl, ho, hc, hd⟩
              have ek := kf_pair ip
              refine ⟨by rw [List.map_cons, ek, h1], by rw [List.map_cons, ← h2]; rfl, fun v hv => ?_⟩
              rcases List.mem_cons.mp hv with rfl | hv
              · refine ⟨⟨a, rfl⟩, ?_, ?_⟩
                · rw [ek]; exact ip
                · rw [ek]; exact q1'
              · exact h3 v hv
def rSortD (K : PySem.W.Frag) : V → List V → Hp → VK → Prop := fun x xs H Q => ∃ (a : Addr) (items : List V) (ds es : List D), x = V.ref a ∧ xs = [] ∧ H a = some (.lst items) ∧ Rps K H items ds ∧ sortD ds = some es ∧
  ∀ zs, Rps K H zs es → Q .non (upd H a (.lst zs))
theorem mt_sortD {X : Cx} : MtR X "list.sort" (rSortD X.K) := by
  intro pins s σ H x xs v us Q I rx rxs h
  obtain ⟨a, items, ds, es, rfl, rfl, ha, r, hd, q⟩ := h
  unfold sortD at hd
  split at hd
  · next ns e =>
    cases hd
    rw [intsOf_eq e] at r
    rw [r.of_ints] at ha
    exact mt_sortI pins s σ H _ [] v us Q I rx rxs ⟨a, ns, rfl, rfl, ha, fun ms h1 h2 => by rw [sortI_uniq h1 h2]; exact q _ Rps.ints⟩
  · obtain ⟨ps, e, h⟩ := Option.map_eq_some_iff.mp hd
    subst h
    rw [pairsI_eq e] at r
    cases rx
    cases rxs
    obtain ⟨hz, its, n, rv, hob⟩ := I.hok a _ ha
    obtain ⟨f1, f2, f3⟩ := pairs_at I rv r
    refine wpAny_call_entry PyProof.Rows.slot_list_sort ⟨_, hob, rfl⟩ PyProof.Rows.entry_list_sort (SrtO.list_sort_ord (SrtO.swo_lex (kf s.heap)) hob (by rw [← rv.length]; exact hz) (fun h2 => ?_) fun out h1 h2 => ⟨.none, rfl, ?_⟩) (PyProof.Rows.args_list_sort _)
    · refine SrtO.pairs_sortableO (by omega) (fun v hv => (f3 v hv).2.1) fun o eo => ?_
      rw [hob] at eo
      cases eo
      exact fun c => absurd (Value.type.inj c) (by decide)
    · have mem : ∀ u ∈ out, u ∈ its := fun u hu => h2.perm.mem_iff.mp hu
      obtain ⟨ep, he'⟩ := PyProof.Rows.sortedHeap_at (vs := its) (out := out.toArray) hob
      have hsort : out.map (kf s.heap) = sortP ps := by
        refine sortP_uniq (by rw [← f1]; exact h2.perm.map _) (List.pairwise_map.mpr (List.Pairwise.imp (fun {u v} h => ?_) h1))
        unfold lexLe
        have h' : SrtO.lexB (kf s.heap v) (kf s.heap u) = false := h
        rw [h']; rfl
      have rz : Rps X.K H (out.map backV) ((sortP ps).map pairI) := by
        rw [← hsort]
        have : ∀ l : List Value, (∀ u ∈ l, u ∈ its) → Rps X.K H (l.map backV) ((l.map (kf s.heap)).map pairI) := fun l => by
          induction l with
          | nil => exact fun _ => .nil
          | cons u l ih => exact fun hl => .cons (f3 u (hl u List.mem_cons_self)).2.2 (ih fun w hw => hl w (List.mem_cons_of_mem _ hw))
        exact this out mem
      have lz : (out.map backV).length ≤ sizeLine := by
        rw [List.length_map, h2.perm.length_eq, ← rv.length]; exact hz
      refine ⟨.non, upd H a (.lst (out.map backV)), I.write (e := a) (t' := s.toks) (by rw [ha]; trivial) (.inl rfl) (fun b u hb hu => ?_) ⟨_, he'⟩ ⟨lz, out, ep, vals_back fun u hu => (f3 u (mem u hu)).1, he'⟩, rfl, q _ rz⟩
      exact (PyProof.Rows.sortedHeap_old hb (Heap.lt_size hu)).trans hu
/-- sorted(v), what v holds collected first, then put into a list and that list sorted -/
theorem sorted_by {v : Value} {Q : VK} (I : Inv X pins σ H s)
    (hcol : ∀ (W : List Value → Shared → Prop) (E : Value → Shared → Prop), (∀ vs s1, (∃ H1 items, Inv X pins σ H1 s1 ∧ Vals items vs ∧ items.length ≤ sizeLine ∧ ∃ ds es, Rps X.K H1 items ds ∧ sortD ds = some es ∧ ∀ p zs, H1 p = none → Rps X.K (upd H1 p (.lst zs)) zs es → Q (.ref p) (upd H1 p (.lst zs))) → W vs s1) → wpAny (model X.prog X.w) X.A.in1 (collect v) W E s) :
    wpAny (model X.prog X.w) X.A (call (.builtin "sorted") [v]) (EP X pins σ Q) X.xe s := by
  refine Calls.call_function_entry kind_sorted plain_sorted entry_sorted (args_sorted1 _) ?_
  unfold Builtin.«sorted»
  refine wpAny_bind (m := checkCount "sorted" 1 1 _) (wpAny_pure ?_)
  refine wpAny_bind (hcol _ _ fun vs s1 ⟨H1, items, I1, rv, hz, ds, es, rd, hd, hq⟩ => ?_)
  have hl : vs.length ≤ sizeLine := by rw [← rv.length]; exact hz
  refine wpAny_bind (wpAny_newList ?_ hl)
  have I2 : Inv X pins σ (upd H1 s1.heap.objs.size (.lst items)) { s1 with heap := s1.heap.push { cls := .type "list", data := .seq vs.toArray } } := I1.laid (t' := s1.toks) (fun b o e => Heap.get?_push_of_some _ e) (Nat.le_refl _) ⟨hz, vs, 0, rv, Heap.get?_push_size _ rfl⟩
  have hn : H1 s1.heap.objs.size = none := I1.hok.fresh (Nat.le_refl _)
  have key := mt_sortD (X := deep1 X) pins _ σ _ (.ref s1.heap.objs.size) [] (.ref s1.heap.objs.size) [] (fun _ H2 => Q (.ref s1.heap.objs.size) H2) (inv1 I2) rfl .nil
    ⟨s1.heap.objs.size, items, ds, es, rfl, rfl, upd_same, rd.keep (Keep.new hn), hd, fun zs rz => ?_⟩
  refine wpAny_bind (wpAny_holding (wpAny_mono key (fun _ s2 ⟨u, H2, I3, _, q⟩ => ?_) fun _ _ z => z))
  · exact wpAny_pure ⟨_, rfl, .ref s1.heap.objs.size, H2, inv0 I3 I.ok, rfl, q⟩
  · rw [upd_upd]
    refine hq _ zs hn ?_
    have k := Keep.put (o' := .lst zs) (upd_same (H := H1) (a := s1.heap.objs.size) (o := .lst items)) free_lst
    rw [upd_upd] at k
    exact rz.keep k

/-- sorted(x) of a list or a tuple -/
def rSortedQ (K : PySem.W.Frag) : List V → Hp → VK → Prop := fun xs H Q => ∃ (a : Addr) (items : List V) (ds es : List D), xs = [.ref a] ∧ (SqL K H a items ∨ SqT K H a items) ∧ Rps K H items ds ∧ sortD ds = some es ∧
  ∀ p zs, H p = none → Rps K (upd H p (.lst zs)) zs es → Q (.ref p) (upd H p (.lst zs))
theorem cr_sortedQ : CallR X (.builtin "sorted") (rSortedQ X.K) := by
  intro pins s σ H xs us Q I r h
  obtain ⟨a, items, ds, es, rfl, hsq, rd, hd, q⟩ := h
  obtain ⟨u, rfl, ru⟩ := vals1 r
  cases ru
  refine sorted_by I fun W E hW => ?_
  rcases hsq with h | h
  · obtain ⟨its, rv, ⟨o, n, ho, hc, _, hd'⟩, hz⟩ := I.list h
    refine wpAny_collect_seq a (.inl rfl) ho hc hd' (fun h' hk => hW _ _ ⟨H, items, I.kept (t' := s.toks) hk, by simpa using rv, hz, ds, es, rd, hd, q⟩) ?_
    rw [List.size_toArray, ← rv.length]; exact hz
  · obtain ⟨its, rv, ⟨o, ho, hc, n, hd'⟩, hz⟩ := I.tuple h
    refine wpAny_collect_seq a (.inr rfl) ho hc hd' (fun h' hk => hW _ _ ⟨H, items, I.kept (t' := s.toks) hk, by simpa using rv, hz, ds, es, rd, hd, q⟩) ?_
    rw [List.size_toArray, ← rv.length]; exact hz
def sortedT : DF := fun ts S => match ts with
  | [t] => ((seqOf S t).bind sortD).map fun es => (.loc S.length, S ++ [.lst es])
  | _ => none
theorem sorted_ok {K : PySem.W.Frag} : CallOk K (rSortedQ K) sortedT := by
  intro H A S vs ts v S' hs rs h Q hq
  unfold sortedT at h
  split at h
  · obtain ⟨x, rfl, r⟩ := rs.one
    obtain ⟨es, e, h⟩ := Option.map_eq_some_iff.mp h
    obtain ⟨ds, e1, e2⟩ := Option.bind_eq_some_iff.mp e
    cases h
    obtain ⟨a, ws, rfl, hl, r1⟩ := seqOf_ok hs r e1
    exact ⟨a, ws, ds, es, rfl, hl, r1, e2, fun p zs hp rz => hq _ _ _ (Pre.app A [p]) (Keep.new hp) (hs.push hp ⟨zs, upd_same, rz⟩) hs.numL⟩
  · cases h
/-! sorted(d.values()), sorted(d.items()), sorted(d) -/
variable {e o : Expr} {te td : TE} {fe fd : EF} {p pos apos cpos : Pos}
/-- what is told of a dict's sorted things: G what they are -/
def tSortedD (K : PySem.W.Frag) (G : KD → List D) (te : TE) : TE := fun σ H Q => te σ H fun x H1 => ∃ (d : Addr) (kv : List (Key × V)) (kvs : KD) (es : List D), x = .ref d ∧ H1 d = some (.dK kv) ∧ RKV K H1 kv kvs ∧ sortD (G kvs) = some es ∧
  ∀ (H2 : Hp) p zs, Keep H1 H2 → (∀ b ob, H1 b = some ob → H2 b = some ob) → H1 p = none → H2 p = none → Rps K (upd H2 p (.lst zs)) zs es → Q (.ref p) (upd H2 p (.lst zs))
theorem keep_of {H H' : Hp} (k : ∀ b ob, H b = some ob → H' b = some ob) : Keep H H' := ⟨⟨fun b xs h => by
  rcases h with h | ⟨o, h⟩
  · exact .inl (k _ _ h)
  · exact .inr ⟨o, k _ _ h⟩, fun b o xs h => k _ _ h, fun b o xs h => k _ _ h⟩, fun b o xs h => k _ _ h⟩
theorem RKV.vals {K : PySem.W.Frag} {H : Hp} {kv : List (Key × V)} {kvs : KD} (r : RKV K H kv kvs) : Rps K H (kv.map (·.2)) (kvs.map (·.2)) := by
  induction r with
  | nil => exact .nil
  | cons h t ih => exact .cons h.2 ih
theorem KV.vals {kv : List (Key × V)} {vs : List (Key × Value)} (r : KV kv vs) : Vals (kv.map (·.2)) (vs.map (·.2)) := by
  induction r with
  | nil => exact .nil
  | cons h t ih => exact .cons h.2 ih
/-- a builtin of what a method of a dict hands out: the dict, the view at its place -/
theorem view_call {X : Cx} {e : Expr} {te : TE} {x : Str} {p pos apos cpos : Pos} {m : Str} {id fid : String} {R : V → Hp → VK → Prop} (he : PE X e te) (hg : Gl X x) (hm : X.mg x = none) (hv : bootBuiltins x = some (.builtin fid)) (hn : x ≠ "__name__") (hdb : (x == ("__debug__" : Str)) = false)
    (slot : Slot "dict" m id) (hty : typeOf (.builtin id) = pure (.type "method_descriptor")) (hbase : attributeBase e m X.env (eval e X.env) = eval e X.env) (hline : (apos.endLine == cpos.line) = true)
    (hs : starEach [.Call (.Attribute e m apos) [] [] cpos] X.env = (false, eval (.Call (.Attribute e m apos) [] [] cpos) X.env) :: starEach [] X.env) (hpl : (backTo pos (starEach [] X.env)).any (·.1) = false)
    (hR : ∀ (pins : List (Addr × Obj)) (s : Shared) (σ : L2.St) (H : Hp) (y : V) (Q : VK), Inv X pins σ H s → R y H Q → ∃ d, y = .ref d ∧ s.TypeIs (.ref d) "dict" ∧ (∀ b, Value.ref d = .ref b → ∃ ob, s.heap.get? b = some ob ∧ ob.dict = none) ∧
      wpAny (model X.prog X.w) X.A (callWith cpos (.builtin id) [.ref d] [] []) (fun u s' => wpAny (model X.prog X.w) X.A (call (.builtin fid) [u]) (EP X pins σ Q) X.xe s') X.xe s) :
    PE X (.Call (.Name x p) [.Call (.Attribute e m apos) [] [] cpos] [] pos) (fun σ H Q => te σ H fun y H1 => R y H1 Q) := by
  refine ⟨fun pins s σ H Q I hq => ?_⟩
  refine wpAny_Call_Name_kw (ld_blt I hg hm hv ?_ hn hdb)
  refine PyProof.Rows.callWith_builtin1 ?_ hs hpl
  rw [hs]
  refine Calls.spliced_cons ?_
  refine wpAny_Call_method (T := "dict") (id := id) hbase rfl hline F.plainAttrs_dict slot hty (thn (he.run pins s σ H _ I hq) fun u s1 ⟨y, H1, I1, ry, r⟩ => ?_)
  obtain ⟨d, rfl, h1, h2, h3⟩ := hR pins s1 σ H1 y Q I1 r
  cases ry
  exact ⟨h1, h2, thn h3 fun u s2 h => Calls.spliced_nil h⟩
/-- sorted(d.values()) -/
def rSortedV (K : PySem.W.Frag) : V → Hp → VK → Prop := fun y H Q => ∃ (d : Addr) (kv : List (Key × V)) (kvs : KD) (es : List D), y = .ref d ∧ Rd H d (.dK kv) ∧ RKV K H kv kvs ∧ sortD (kvs.map (·.2)) = some es ∧
  ∀ p zs, H p = none → Rps K (upd H p (.lst zs)) zs es → Q (.ref p) (upd H p (.lst zs))
theorem vals_items {vs : List (Key × Value)} {acc : Array Value} (h : ItemsOf (fun i v => ∃ k, vs[i]? = some (k, v)) acc vs.length) : acc.toList = vs.map (·.2) := by
  refine List.ext_getElem? fun i => ?_
  by_cases hi : i < acc.size
  · have e1 : acc[i]? = some acc[i] := Array.getElem?_eq_getElem hi
    obtain ⟨k, e2⟩ := h.2 i _ e1
    rw [Array.getElem?_toList, e1, List.getElem?_map, e2]; rfl
  · rw [Array.getElem?_toList, Array.getElem?_eq_none (by omega), List.getElem?_eq_none (by rw [List.length_map, ← h.1]; omega)]
theorem pe_sortedV {X : Cx} {e : Expr} {te : TE} {p pos apos cpos : Pos} (hc : X.calm = true) (he : PE X e te) (hg : Gl X "sorted") (hm : X.mg "sorted" = none) (hbase : attributeBase e "values" X.env (eval e X.env) = eval e X.env := by rfl) (hline : (apos.endLine == cpos.line) = true := by rfl)
    (hs : starEach [.Call (.Attribute e "values" apos) [] [] cpos] X.env = (false, eval (.Call (.Attribute e "values" apos) [] [] cpos) X.env) :: starEach [] X.env := by rfl) (hpl : (backTo pos (starEach [] X.env)).any (·.1) = false := by rfl) :
    PE X (.Call (.Name "sorted" p) [.Call (.Attribute e "values" apos) [] [] cpos] [] pos) (fun σ H Q => te σ H fun y H1 => rSortedV X.K y H1 Q) := by
  refine view_call (fid := "sorted") (id := "dict.values") he hg hm (by decide +kernel) (by decide) (by decide) F.slot_dict_values F.type_dict_values hbase hline hs hpl ?_
  intro pins s σ H y Q I h
  obtain ⟨d, kv, kvs, es, rfl, rd, rk, hsd, q⟩ := h
  obtain ⟨hz, hs0, vs, rv, hdo⟩ := dk_rd I.hok rd
  obtain ⟨ep, hat⟩ := hdo.dictAt
  refine ⟨d, rfl, hdo.typeIs, hdo.mapOf.noDict, ?_⟩
  refine method_meetsIn F.slot_dict_values F.entry_dict_values rfl (PySem.evalArgs_none ⟨rfl, hdo.typeIs, F.args_dict_values_1 _, _, meets_dict_values (mixKind X.prog X.w) d hs0, ⟨vs, hdo⟩, ?_⟩)
  have I2 : Inv X pins σ H { s with heap := s.heap.push { cls := .type "dict_values", data := .fields #[.ref d] } } := I.kept (t' := s.toks) fun b ob q => Heap.get?_push_of_some _ q
  refine sorted_by I2 fun W E hW => ?_
  have ok : (s.heap.push { cls := .type "dict_values", data := .fields #[.ref d] }).IsValuesView s.heap.objs.size d ∧ (s.heap.push { cls := .type "dict_values", data := .fields #[.ref d] }).DictAt (mixKind X.prog X.w) d vs ep := ⟨⟨_, Heap.get?_push_size _ rfl, rfl, rfl⟩, hat.push _⟩
  have lz : kv.length = vs.length := Paired.length rv
  refine PySem.W.kdu_collect (PySem.W.kdl_values (knd := mixKind X.prog X.w) (r := s.heap.objs.size) (d := d) (kvs := vs) (ep := ep)) (I.ok.hd hc) ok (by omega) fun h' tk acc hk hacc => ?_
  refine hW _ _ ⟨H, kv.map (·.2), I2.kept (t' := tk) hk, ?_, by rw [List.length_map]; omega, _, es, rk.vals, hsd, q⟩
  rw [vals_items hacc]
  exact KV.vals rv
def sortedVF (fe : EF) : EF := fun env S => (fe env S).bind fun x => (dictOf x.2 x.1).bind fun kvs => (sortD (kvs.map (·.2))).map fun es => (.loc x.2.length, x.2 ++ [.lst es])
theorem pv_sortedV {X : Cx} {e : Expr} {te : TE} {fe : EF} {p pos apos cpos : Pos} (hc : X.calm = true) (he : PV X e te fe) (hg : Gl X "sorted") (hm : X.mg "sorted" = none) (hbase : attributeBase e "values" X.env (eval e X.env) = eval e X.env := by rfl) (hline : (apos.endLine == cpos.line) = true := by rfl)
    (hs : starEach [.Call (.Attribute e "values" apos) [] [] cpos] X.env = (false, eval (.Call (.Attribute e "values" apos) [] [] cpos) X.env) :: starEach [] X.env := by rfl) (hpl : (backTo pos (starEach [] X.env)).any (·.1) = false := by rfl) :
    PV X (.Call (.Name "sorted" p) [.Call (.Attribute e "values" apos) [] [] cpos] [] pos) (fun σ H Q => te σ H fun y H1 => rSortedV X.K y H1 Q) (sortedVF fe) := by
  refine ⟨pe_sortedV hc he.pe hg hm hbase hline hs hpl, ?_⟩
  intro σ H A env S v S' hE hS hf Q hq
  obtain ⟨⟨x, S1⟩, e1, hf⟩ := Option.bind_eq_some_iff.mp hf
  obtain ⟨kvs, e2, hf⟩ := Option.bind_eq_some_iff.mp hf
  obtain ⟨es, e3, hf⟩ := Option.map_eq_some_iff.mp hf
  cases hf
  refine he.ok σ H A env S x S1 hE hS e1 _ fun u H1 A1 p1 k1 s1 r1 => ?_
  obtain ⟨d, kv, rfl, rd, rk⟩ := dictOf_ok s1 r1 e2
  exact ⟨d, kv, kvs, es, rfl, rd, rk, e3, fun z zs hz rz => hq _ _ _ (p1.trans (Pre.app A1 [z])) (k1.trans (Keep.new hz)) (s1.push hz ⟨zs, upd_same, rz⟩) s1.numL⟩
/-- sorted(d.items()) -/
def itemsD (kvs : KD) : List D := kvs.map fun q => .tuple [dK q.1, q.2]
def rSortedI2 (K : PySem.W.Frag) : V → Hp → VK → Prop := fun y H Q => ∃ (d : Addr) (kv : List (Key × V)) (kvs : KD) (es : List D), y = .ref d ∧ Rd H d (.dK kv) ∧ RKV K H kv kvs ∧ sortD (itemsD kvs) = some es ∧
  ∀ H2 p zs, (∀ b ob, H b = some ob → H2 b = some ob) → H p = none → H2 p = none → Rps K (upd H2 p (.lst zs)) zs es → Q (.ref p) (upd H2 p (.lst zs))
/-- new pairs are tracked -/
theorem tups_laid {X : Cx} {pins : List (Addr × Obj)} {σ : L2.St} {H : Hp} {s : Shared} {h' : Heap} {tk : Nat} {kv : List (Key × V)} {vs : List (Key × Value)} {as : List Addr} (I : Inv X pins σ H s) (rv : KV kv vs) (hk : ∀ b o, s.heap.get? b = some o → h'.get? b = some o)
    (hl : as.length = vs.length) (hG : PySem.W.KdxG (mixKind X.prog X.w) vs s.heap.objs.size h' as) :
    ∃ H', (∀ b ob, H b = some ob → H' b = some ob) ∧ (∀ b, b ∉ as → H' b = H b) ∧ Paired (fun (a : Addr) (q : Key × V) => H' a = some (.tup [kV q.1, q.2])) as kv ∧ Inv X pins σ H' { s with heap := h', toks := tk } := by
  have up : ∀ a ∈ as, s.heap.objs.size ≤ a := fun a ha => Nat.le_of_lt (hG.above a ha)
  have new : ∀ a ∈ as, H a = none := fun a ha => I.hok.fresh (up a ha)
  have at_ := LiI.putT_at as kv H (by rw [hl]; exact (Paired.length rv).symm) (hG.rise.imp fun h => Nat.ne_of_lt h)
  have off : ∀ b, b ∉ as → LiI.putT H as kv b = H b := fun b hb => LiI.putT_off as kv H hb
  have old : ∀ b ob, H b = some ob → LiI.putT H as kv b = some ob := fun b ob e => by
    rw [off b fun z => by rw [new b z] at e; cases e]; exact e
  have low : ∀ b ob, s.heap.get? b = some ob → b ∉ as := fun b ob e z => Nat.lt_irrefl _ (Nat.lt_of_lt_of_le (Heap.lt_size e) (up b z))
  refine ⟨LiI.putT H as kv, old, off, at_, I.call' (ch := []) rfl ?_ (fun b u e => ?_) I.bare fun b z => by simp at z⟩
  · exact ⟨fun b o e _ _ _ => hk b o e, fun b o e _ _ _ => ⟨o.slots, hk b o e⟩, fun b o e n _ => (off b (low b o e)).trans n, fun b o e _ => ⟨o, hk b o e⟩, fun b xs e => old b _ e, fun b o xs e => old b _ e, fun b ps e => ⟨#[], by rw [old b _ e, Array.append_empty]⟩⟩
  · by_cases hb : b ∈ as
    · obtain ⟨j, q, e1, e2, e3⟩ := LiI.paired_ix at_ hb
      rw [e3] at e
      cases e
      obtain ⟨key, k, x, g1, g2, g3⟩ := hG.pairs j b e1
      obtain ⟨q', w1, w2, w3⟩ := LiI.paired_get rv e2
      rw [g1] at w1
      cases w1
      have rk : RelV (kV q.1) key := by rw [w2]; exact relV_key (show keyIs k key = true from g2)
      exact ⟨show 2 ≤ sizeLine by decide, [key, x], .cons rk (.cons w3 .nil), _, g3, rfl, _, rfl⟩
    · rw [off b hb] at e
      exact (I.hok b u e).stay (fun c w _ g => hk c w g) (fun c g => old c _ g) fun c xs g => old c _ g
theorem pairs_data {K : PySem.W.Frag} {H H' : Hp} {as : List Addr} {kv : List (Key × V)} {kvs : KD} (h : Paired (fun (a : Addr) (q : Key × V) => H' a = some (.tup [kV q.1, q.2])) as kv) (k : Keep H H') : RKV K H kv kvs → Rps K H' (as.map V.ref) (itemsD kvs) := by
  induction h generalizing kvs with
  | nil => intro r; cases r; exact .nil
  | cons a _ ih =>
    intro r
    cases r with
    | cons b t => exact .cons (.tup (SqT.of a) (.cons (by rw [b.1]; exact rp_key _) (.cons (b.2.keep k) .nil))) (ih t)
theorem pe_sortedI {X : Cx} {e : Expr} {te : TE} {p pos apos cpos : Pos} (hc : X.calm = true) (he : PE X e te) (hg : Gl X "sorted") (hm : X.mg "sorted" = none) (hbase : attributeBase e "items" X.env (eval e X.env) = eval e X.env := by rfl) (hline : (apos.endLine == cpos.line) = true := by rfl)
    (hs : starEach [.Call (.Attribute e "items" apos) [] [] cpos] X.env = (false, eval (.Call (.Attribute e "items" apos) [] [] cpos) X.env) :: starEach [] X.env := by rfl) (hpl : (backTo pos (starEach [] X.env)).any (·.1) = false := by rfl) :
    PE X (.Call (.Name "sorted" p) [.Call (.Attribute e "items" apos) [] [] cpos] [] pos) (fun σ H Q => te σ H fun y H1 => rSortedI2 X.K y H1 Q) := by
  refine view_call (fid := "sorted") (id := "dict.items") he hg hm (by decide +kernel) (by decide) (by decide) F.slot_dict_items F.type_dict_items hbase hline hs hpl ?_
  intro pins s σ H y Q I h
  obtain ⟨d, kv, kvs, es, rfl, rd, rk, hsd, q⟩ := h
  obtain ⟨hz, hs0, vs, rv, hdo⟩ := dk_rd I.hok rd
  obtain ⟨ep, hat⟩ := hdo.dictAt
  refine ⟨d, rfl, hdo.typeIs, hdo.mapOf.noDict, ?_⟩
  refine method_meetsIn F.slot_dict_items F.entry_dict_items rfl (PySem.evalArgs_none ⟨rfl, hdo.typeIs, F.args_dict_items_1 _, _, meets_dict_items (mixKind X.prog X.w) d hs0, ⟨vs, hdo⟩, ?_⟩)
  have I2 : Inv X pins σ H { s with heap := s.heap.push { cls := .type "dict_items", data := .fields #[.ref d] } } := I.kept (t' := s.toks) fun b ob q => Heap.get?_push_of_some _ q
  refine sorted_by I2 fun W E hW => ?_
  have lz : kv.length = vs.length := Paired.length rv
  refine PySem.W.kdx_collect (knd := mixKind X.prog X.w) (kvs := vs) (ep := ep) (I.ok.hd hc) ⟨_, Heap.get?_push_size _ rfl, rfl, rfl⟩ (hat.push _) (by omega) fun h' tk as hk hl hG => ?_
  obtain ⟨H2, k1, k2, k3, I3⟩ := tups_laid (tk := tk) I2 rv hk hl hG
  have kp := keep_of k1
  refine hW _ _ ⟨H2, as.map V.ref, I3, LiI.vals_refs as, by rw [List.length_map, hl]; omega, _, es, pairs_data k3 kp rk, hsd, fun p zs hn rz => ?_⟩
  refine q H2 p zs k1 ?_ hn rz
  cases g : H p with
  | none => rfl
  | some ob => rw [k1 p ob g] at hn; cases hn
def sortedIF (fe : EF) : EF := fun env S => (fe env S).bind fun x => (dictOf x.2 x.1).bind fun kvs => (sortD (itemsD kvs)).map fun es => (.loc x.2.length, x.2 ++ [.lst es])
theorem RS.same {K : PySem.W.Frag} {H H2 : Hp} {A : List Addr} {S : Sto} (h : RS K H A S) (k : ∀ b ob, H b = some ob → H2 b = some ob) : RS K H2 A S := ⟨h.len, h.nd, fun n a o e q => by
  obtain ⟨x, hx, _⟩ := h.there e
  exact (h.ob n a o e q).keep (keep_of k) ((k a x hx).trans hx.symm)⟩
theorem pv_sortedI {X : Cx} {e : Expr} {te : TE} {fe : EF} {p pos apos cpos : Pos} (hc : X.calm = true) (he : PV X e te fe) (hg : Gl X "sorted") (hm : X.mg "sorted" = none) (hbase : attributeBase e "items" X.env (eval e X.env) = eval e X.env := by rfl) (hline : (apos.endLine == cpos.line) = true := by rfl)
    (hs : starEach [.Call (.Attribute e "items" apos) [] [] cpos] X.env = (false, eval (.Call (.Attribute e "items" apos) [] [] cpos) X.env) :: starEach [] X.env := by rfl) (hpl : (backTo pos (starEach [] X.env)).any (·.1) = false := by rfl) :
    PV X (.Call (.Name "sorted" p) [.Call (.Attribute e "items" apos) [] [] cpos] [] pos) (fun σ H Q => te σ H fun y H1 => rSortedI2 X.K y H1 Q) (sortedIF fe) := by
  refine ⟨pe_sortedI hc he.pe hg hm hbase hline hs hpl, ?_⟩
  intro σ H A env S v S' hE hS hf Q hq
  obtain ⟨⟨x, S1⟩, e1, hf⟩ := Option.bind_eq_some_iff.mp hf
  obtain ⟨kvs, e2, hf⟩ := Option.bind_eq_some_iff.mp hf
  obtain ⟨es, e3, hf⟩ := Option.map_eq_some_iff.mp hf
  cases hf
  refine he.ok σ H A env S x S1 hE hS e1 _ fun u H1 A1 p1 k1 s1 r1 => ?_
  obtain ⟨d, kv, rfl, rd, rk⟩ := dictOf_ok s1 r1 e2
  exact ⟨d, kv, kvs, es, rfl, rd, rk, e3, fun H2 z zs k2 _ hz rz => hq _ _ _ (p1.trans (Pre.app A1 [z])) (k1.trans ((keep_of k2).trans (Keep.new hz))) ((s1.same k2).push hz ⟨zs, upd_same, rz⟩) s1.numL⟩
end
end Pv
set_option maxHeartbeats 4000000
/-! Pv12: products, list of a range, dict(), dict of a tuple of pairs, plain tuples and count, repr, is True, a, b = x, y. -/
namespace Pv
open PySem PySem.Spec PyProof.Rows L2

section
variable {X : Cx} {a b e c tg it o i : Expr} {es rest elts : List Expr} {ta tb te td ti tx : TE} {fa fb fe fd fx : EF} {pos p p2 tpos : Pos} {t : TT} {f : TF} {tA : TA} {fA : AF}
/-! ### tuple * int, list * int -/
theorem tuple_mul1 (l : Addr) (items : Array Value) (n : Nat) (dd : Option Addr) (sl : Array (Option Value)) (x : Int) (u : Tok) (c0 : (decide (x < -(2 ^ 63)) || decide (x ≥ 2 ^ 63)) = false) (c1 : (items.isEmpty || x == 1) = true) :
    Meets (Builtin.«tuple.__mul__» ⟨[.ref l, .int x u], []⟩) (fun _ R s => s.heap.get? l = some { cls := .type "tuple", dict := dd, data := .seq items n, slots := sl } ∧ R (.ok (.ret (Value.ref l))) s) :=
  .of_wp fun prog w A R s h => by
    obtain ⟨hp, g, d, tk, os⟩ := s
    obtain ⟨hl, h⟩ := h
    have f1 := AutoSeq1.idx_int
    wp_walk using wpAny_loadPart' hl
    repeat (first
      | (refine wpAny_ite_false (decide_eq_false (by rw [c0]; exact Bool.false_ne_true)) ?_; wp_walk using wpAny_loadPart' hl)
      | (refine wpAny_ite_true (decide_eq_true c1) ?_; wp_walk using wpAny_loadPart' hl))
    exact ⟨_, rfl, h⟩
theorem tuple_mul0 (l : Addr) (items : Array Value) (n : Nat) (dd : Option Addr) (sl : Array (Option Value)) (x : Int) (u : Tok) (c0 : (decide (x < -(2 ^ 63)) || decide (x ≥ 2 ^ 63)) = false) (c1 : (items.isEmpty || x == 1) = false) (c2 : (decide (x ≤ 0) || items.isEmpty) = true) :
    Meets (Builtin.«tuple.__mul__» ⟨[.ref l, .int x u], []⟩) (fun _ R s => s.heap.get? l = some { cls := .type "tuple", dict := dd, data := .seq items n, slots := sl } ∧
      R (.ok (.ret (Value.ref s.heap.objs.size))) { s with heap := s.heap.push { cls := Value.type "tuple", data := Data.seq #[] }, toks := s.toks }) :=
  .of_wp fun prog w A R s h => by
    obtain ⟨hp, g, d, tk, os⟩ := s
    obtain ⟨hl, h⟩ := h
    have f1 := AutoSeq1.idx_int
    wp_walk using wpAny_loadPart' hl
    repeat (first
      | (refine wpAny_ite_false (decide_eq_false (by rw [c0]; exact Bool.false_ne_true)) ?_; wp_walk using wpAny_loadPart' hl)
      | (refine wpAny_ite_false (decide_eq_false (by rw [c1]; exact Bool.false_ne_true)) ?_; wp_walk using wpAny_loadPart' hl)
      | (refine wpAny_ite_true (decide_eq_true c2) ?_; wp_walk using wpAny_loadPart' hl))
    exact ⟨_, rfl, h⟩
def rRep1 (K : PySem.W.Frag) : R2 := fun x y H Q => ∃ l k xs, x = .ref l ∧ y = .int k ∧ SqT K H l xs ∧ (xs = [] ∨ k = 1) ∧ -(2 ^ 63) ≤ k ∧ k < 2 ^ 63 ∧ Q (.ref l) H
def rRep0 (K : PySem.W.Frag) : R2 := fun x y H Q => ∃ l k xs, x = .ref l ∧ y = .int k ∧ SqT K H l xs ∧ xs ≠ [] ∧ -(2 ^ 63) ≤ k ∧ k ≤ 0 ∧ ∀ p, H p = none → Q (.ref p) (upd H p (.tup []))
theorem op_rep1 : OpR X (binaryOp .Mult) (rRep1 X.K) := by
  intro pins s σ H x y v u Q I rx ry h
  obtain ⟨l, k, xs, rfl, rfl, hT, hne, h1, h2, q⟩ := h
  cases rx
  obtain ⟨t, rfl⟩ := ry
  obtain ⟨its, r, ⟨⟨cls, dd, data, sl⟩, ho, hc, n, hd⟩, hs⟩ := I.tuple hT
  simp only at hc hd
  subst hc hd
  have c0 : (decide (k < -(2 ^ 63)) || decide (k ≥ 2 ^ 63)) = false := by
    rw [decide_eq_false (by omega), decide_eq_false (by omega)] <;> rfl
  have c1 : (its.toArray.isEmpty || k == 1) = true := by
    rcases hne with e | e
    · subst e
      cases r
      rfl
    · subst e; simp
  refine wpAny_binaryOp_repeat_ref (T := "tuple") (U := "int") (by decide) ⟨_, ho, rfl⟩ (fun s' => typeIs_int s' k t) noFill_tuple_mul F.fills_int_mul F.slot_int_rmul repeat_tuple F.slot_int_index.lookup
    (call_meets F.slot_int_rmul (typeIs_int s k t) F.entry_int_rmul (F.args_int_rmul_2 _ _) (int_rmul_tuple k t l its.toArray n dd sl)
      ⟨ho, rfl, ⟨_, ho, rfl⟩, call_meets F.slot_tuple_mul ⟨_, ho, rfl⟩ F.entry_tuple_mul (F.args_tuple_mul_2 _ _) (tuple_mul1 l its.toArray n dd sl k t c0 c1) ⟨ho, ?_⟩⟩)
  exact ⟨.ref l, H, I, rfl, q⟩
theorem op_rep0 : OpR X (binaryOp .Mult) (rRep0 X.K) := by
  intro pins s σ H x y v u Q I rx ry h
  obtain ⟨l, k, xs, rfl, rfl, hT, hne, h1, h2, q⟩ := h
  cases rx
  obtain ⟨t, rfl⟩ := ry
  obtain ⟨its, r, ⟨⟨cls, dd, data, sl⟩, ho, hc, n, hd⟩, hs⟩ := I.tuple hT
  simp only at hc hd
  subst hc hd
  have c0 : (decide (k < -(2 ^ 63)) || decide (k ≥ 2 ^ 63)) = false := by
    rw [decide_eq_false (by omega), decide_eq_false (by omega)] <;> rfl
  have hi : its.toArray.isEmpty = false := by
    cases its with
    | nil => cases r; exact absurd rfl hne
    | cons a b => rfl
  have c1 : (its.toArray.isEmpty || k == 1) = false := by
    rw [hi, Bool.false_or]
    exact beq_eq_false_iff_ne.mpr (by omega)
  have c2 : (decide (k ≤ 0) || its.toArray.isEmpty) = true := by rw [decide_eq_true h2]; rfl
  refine wpAny_binaryOp_repeat_ref (T := "tuple") (U := "int") (by decide) ⟨_, ho, rfl⟩ (fun s' => typeIs_int s' k t) noFill_tuple_mul F.fills_int_mul F.slot_int_rmul repeat_tuple F.slot_int_index.lookup
    (call_meets F.slot_int_rmul (typeIs_int s k t) F.entry_int_rmul (F.args_int_rmul_2 _ _) (int_rmul_tuple k t l its.toArray n dd sl)
      ⟨ho, rfl, ⟨_, ho, rfl⟩, call_meets F.slot_tuple_mul ⟨_, ho, rfl⟩ F.entry_tuple_mul (F.args_tuple_mul_2 _ _) (tuple_mul0 l its.toArray n dd sl k t c0 c1 c2) ⟨ho, ?_⟩⟩)
  refine ⟨.ref s.heap.objs.size, _, I.laid (t' := s.toks) (o := .tup []) (fun b ob q => Heap.get?_push_of_some _ q) (Nat.le_refl _) ?_, rfl, q _ (I.hok.fresh (Nat.le_refl _))⟩
  exact ⟨by simp, [], .nil, IsTup.new _ _⟩
def rMul (K : PySem.W.Frag) : R2 := fun x y H Q => (rI CMul (fun i j => .int (i * j)) x y H Q ∨ rI CMulW (fun i j => .int (i * j)) x y H Q) ∨ ((rRepT K x y H Q ∨ rRep1 K x y H Q) ∨ (rRep0 K x y H Q ∨ rRep x y H Q))
theorem op_mulA : OpR X (binaryOp .Mult) (rMul X.K) := (op_mul.or op_mulW).or ((op_repT.or op_rep1).or (op_rep0.or op_rep))
instance {i j : Int} : Decidable (CMulW i j) := inferInstanceAs (Decidable (_ < _))
/-- so many times -/
def repD (k : Int) (xs : List D) : List D := (List.replicate k.toNat xs).flatten
def mulT : Op2 := fun x y S => match x, y with
  | .p (.int i), .p (.int j) => if CMul i j ∨ CMulW i j then some (.p (.int (i * j)), S) else none
  | .p (.tuple xs), .p (.int k) => if -(2 ^ 63) ≤ k ∧ k ≤ 1000 ∧ xs.length ≤ 1000 then some (.p (.tuple (repD k xs)), S) else none
  | .loc n, .p (.int k) => match S[n]? with
    | some (.lst xs) => if -(2 ^ 63) ≤ k ∧ k < 2 ^ 63 ∧ xs.length * k.toNat ≤ sizeLine then some (.loc S.length, S ++ [.lst (repD k xs)]) else none
    | _ => none
  | _, _ => none
theorem Rps.rep {K : PySem.W.Frag} {H : Hp} {vs : List V} {ds : List D} (r : Rps K H vs ds) : ∀ k : Nat, Rps K H (List.replicate k vs).flatten (List.replicate k ds).flatten
  | 0 => .nil
  | k + 1 => by rw [List.replicate_succ, List.replicate_succ, List.flatten_cons, List.flatten_cons]; exact r.app (Rps.rep r k)
theorem mul_ok {K : PySem.W.Frag} : OpOk K (rMul K) mulT := by
  intro H A S x y a b v S' hs rx ry h Q hq
  unfold mulT at h
  split at h
  · next i j =>
    split at h
    · next hc =>
      cases h
      cases rx with
      | p rx => cases rx; cases ry with
        | p ry =>
          cases ry
          have q := hq (.int (i * j)) H A (Pre.refl A) (Keep.refl H) hs (.p (.int _))
          rcases hc with hc | hc
          · exact .inl (.inl ⟨i, j, rfl, rfl, hc, q⟩)
          · exact .inl (.inr ⟨i, j, rfl, rfl, hc, q⟩)
    · cases h
  · next xs k =>
    split at h
    · next hc =>
      cases h
      obtain ⟨l, vs, rfl, s, r⟩ := rx.tupOf
      cases ry with
      | p ry =>
        cases ry
        have hlen := r.length
        by_cases e0 : vs = []
        · have e1 : xs = [] := by subst e0; cases r; rfl
          subst e0; subst e1
          refine .inr (.inl (.inr ⟨l, k, [], rfl, rfl, s, .inl rfl, hc.1, by omega, hq _ H A (Pre.refl A) (Keep.refl H) hs (.p ?_)⟩))
          have : repD k [] = [] := by unfold repD; simp
          rw [this]
          exact .tup s .nil
        · by_cases e1 : k = 1
          · subst e1
            refine .inr (.inl (.inr ⟨l, 1, vs, rfl, rfl, s, .inr rfl, by decide, by decide, hq _ H A (Pre.refl A) (Keep.refl H) hs (.p ?_)⟩))
            have : repD 1 xs = xs := by unfold repD; simp
            rw [this]
            exact .tup s r
          · by_cases e2 : k ≤ 0
            · refine .inr (.inr (.inl ⟨l, k, vs, rfl, rfl, s, e0, hc.1, e2, fun z hz => hq _ _ A (Pre.refl A) (Keep.new hz) (hs.new hz) (.p ?_)⟩))
              have : repD k xs = [] := by unfold repD; rw [show k.toNat = 0 by omega]; rfl
              rw [this]
              exact .tup (SqT.of upd_same) .nil
            · exact .inr (.inl (.inl ⟨l, k, vs, rfl, rfl, s, e0, by omega, hc.2.1, by rw [hlen]; exact hc.2.2, fun z hz => hq _ _ A (Pre.refl A) (Keep.new hz) (hs.new hz) (.p (.tup (SqT.of upd_same) ((r.rep k.toNat).keep (Keep.new hz))))⟩))
    · cases h
  · next n k =>
    obtain ⟨l, rfl, e⟩ := rx.locOf
    split at h
    · next xs q =>
      split at h
      · next hc =>
        cases h
        obtain ⟨vs, h1, r1⟩ := hs.lstOf e q
        cases ry with
        | p ry =>
          cases ry
          exact .inr (.inr (.inr ⟨l, k, vs, rfl, rfl, h1, hc.1, hc.2.1, by rw [r1.length]; exact hc.2.2, fun z hz => hq _ _ _ (Pre.app A [z]) (Keep.new hz) (hs.newL hz ((r1.rep k.toNat))) hs.numL⟩))
      · cases h
    · cases h
  · cases h
theorem pv_mul (ha : PV X a ta fa) (hb : PV X b tb fb) : PV X (.BinOp a .Mult b pos) (tOp (rMul X.K) ta tb) (binF mulT fa fb) := pv_op op_mulA mul_ok ha hb

/-! ### list(range(n)) -/
def rgD (a b : Int) : List D := (List.range (b - a).toNat).map fun i => PyData.int (a + (i : Nat))
theorem rg_rps {K : PySem.W.Frag} {H : Hp} (a b : Int) : Rps K H (rgV a b) (rgD a b) := by
  unfold rgV rgD
  generalize List.range (b - a).toNat = l
  induction l with
  | nil => exact .nil
  | cons i l ih => exact .cons (.int _) ih
instance {a b : Int} : Decidable (RgOk a b) := inferInstanceAs (Decidable (_ ∧ _))
def lrg1F (fe : EF) : EF := fun env S => (fe env S).bind fun x => match x.1 with
  | .p (.int n) => if RgOk 0 n then some (.loc x.2.length, x.2 ++ [.lst (rgD 0 n)]) else none
  | _ => none
theorem pv_lrg1 (hc : X.calm = true) (hg : Gl X "list") (hm : X.mg "list" = none) (hg2 : Gl X "range") (hm2 : X.mg "range" = none) (he : PV X e te fe)
    (na : starEach [.Call (.Name "range" p) [e] [] pos] X.env = (false, eval (.Call (.Name "range" p) [e] [] pos) X.env) :: starEach [] X.env := by rfl) (nb : starEach [e] X.env = (false, eval e X.env) :: starEach [] X.env := by rfl) :
    PV X (.Call (.Name "list" p2) [.Call (.Name "range" p) [e] [] pos] [] tpos) (tLstRg (tRg1 te)) (lrg1F fe) := by
  refine ⟨pe_listRg hc hg hm (prg_1 hg2 hm2 he.pe nb) na, ?_⟩
  intro σ H A env S v S' hE hS hf Q hq
  obtain ⟨⟨x, S1⟩, e1, hf⟩ := Option.bind_eq_some_iff.mp hf
  simp only at hf
  split at hf
  · next n =>
    split at hf
    · next hr =>
      cases hf
      refine he.ok σ H A env S _ S1 hE hS e1 _ fun u H1 A1 p1 k1 s1 r1 => ?_
      cases r1 with
      | p r1 =>
        cases r1
        exact ⟨n, rfl, hr, fun z hz => hq _ _ _ (p1.trans (Pre.app A1 [z])) (k1.trans (Keep.new hz)) (s1.newL hz (rg_rps 0 n)) s1.numL⟩
    · cases hf
  · cases hf

/-! ### dict(), dict(tuple of pairs) -/
theorem cr_dict0 : CallR X (.type "dict") (fun xs H Q => xs = [] ∧ ∀ p, H p = none → Q (.ref p) (upd H p (.dK []))) := by
  intro pins s σ H xs us Q I r h
  obtain ⟨rfl, q⟩ := h
  cases r
  have hm : (s.heap.objs.size == sysModules) = false := beq_eq_false_iff_ne.mpr (Nat.ne_of_gt I.big)
  refine FK.call_dict0 ⟨.ref s.heap.objs.size, upd H s.heap.objs.size (.dK []), I.laid (t' := s.toks) (fun b o e => Heap.get?_push_of_some _ e) (Nat.le_refl _) (show ObjOk X.prog X.w _ _ _ (.dK []) from ⟨by simp, hm, [], .nil, Heap.DictOf.new s.heap⟩), rfl, q _ (I.hok.fresh (Nat.le_refl _))⟩
theorem pv_dict0 (hg : Gl X "dict") (hm : X.mg "dict" = none) : PV X (.Call (.Name "dict" p) [] [] pos) (tCB (fun xs H Q => xs = [] ∧ ∀ p, H p = none → Q (.ref p) (upd H p (.dK []))) tNil) dnewF :=
  ⟨pe_callTy0 cr_dict0 hg hm (by decide +kernel), fun σ H A env S v S' hE hS hf Q hq => ⟨rfl, dnew_ok σ H A env S v S' hE hS hf Q hq⟩⟩
/-! ### tuples known to be plain -/
/-- tuple(xs) of a list -/
def rTupF (K : PySem.W.Frag) : List V → Hp → VK → Prop := fun xs H Q => ∃ p ys, xs = [V.ref p] ∧ SqL K H p ys ∧ ∀ l ob, H l = none → ob.dict = none → Q (.ref l) (upd H l (.frz ob (.tup ys)))
theorem cr_tupF : CallR X (.type "tuple") (rTupF X.K) := by
  intro pins s σ H xs us Q I r h
  obtain ⟨p, ys, rfl, hq, q⟩ := h
  obtain ⟨u, rfl, rx⟩ := vals1 r
  cases rx
  obtain ⟨its, r', pl, hz⟩ := I.list hq
  have hlen := r'.length
  refine call_tuple_list pl.isList (fun h' kp => ?_) (by simp only [List.size_toArray] <;> omega)
  have I1 : Inv X pins σ H { s with heap := h' } := I.kept (t' := s.toks) kp
  have I2 : Inv X pins σ (upd H h'.objs.size (.frz { cls := .type "tuple", data := .seq its.toArray } (.tup ys))) { s with heap := h'.push { cls := .type "tuple", data := .seq its.toArray } } :=
    I1.laid (t' := s.toks) (fun b o e => Heap.get?_push_of_some _ e) (Nat.le_refl _) (show ObjOk X.prog X.w _ _ _ (.frz { cls := .type "tuple", data := .seq its.toArray } (.tup ys)) from ⟨Heap.get?_push_size _ rfl, hz, its, r', IsTup.new _ _⟩)
  exact ⟨.ref h'.objs.size, _, I2, rfl, q _ _ (I1.hok.fresh (Nat.le_refl _)) rfl⟩
def tupleFT : DF := fun ts S => match ts with
  | [t] => (lstOf S t).map fun ds => (.ft ds, S)
  | _ => none
theorem tupF_ok {K : PySem.W.Frag} : CallOk K (rTupF K) tupleFT := by
  intro H A S vs ts v S' hs rs h Q hq
  unfold tupleFT at h
  split at h
  · obtain ⟨x, rfl, r⟩ := rs.one
    obtain ⟨ds, e1, h⟩ := Option.map_eq_some_iff.mp h
    cases h
    obtain ⟨a, ws, rfl, hl, r1⟩ := lstOf_ok hs r e1
    exact ⟨a, ws, rfl, hl, fun p ob hp hd => hq _ _ A (Pre.refl A) (Keep.new hp) (hs.new hp) (.ft upd_same hd (r1.keep (Keep.new hp)))⟩
  · cases h
/-- dict(t) of a plain tuple of pairs -/
def rDictP (K : PySem.W.Frag) : List V → Hp → VK → Prop := fun xs H Q => ∃ (a : Addr) (ob : Obj) (ps : List Addr) (kvs : List (Key × V)), xs = [V.ref a] ∧ H a = some (.frz ob (.tup (ps.map V.ref))) ∧ ob.dict = none ∧ Paired (fun p kv => SqT K H p [kV kv.1, kv.2]) ps kvs ∧
  ∀ p, H p = none → Q (.ref p) (upd H p (.dK (mergeK [] kvs)))
theorem tup_plain {pins : List (Addr × Obj)} {σ : L2.St} {H : Hp} {s : Shared} {a : Addr} {ob : Obj} {vs : List V} (I : Inv X pins σ H s) (h : H a = some (.frz ob (.tup vs))) (hd : ob.dict = none) :
    ∃ (its : List Value) (n : Nat), Vals vs its ∧ vs.length ≤ sizeLine ∧ s.heap.get? a = some ob ∧ ob.cls = .type "tuple" ∧ ob.data = .seq its.toArray n := by
  obtain ⟨e, hz, its, r, o, ho, hc, n, hdat⟩ := I.hok a _ h
  rw [e] at ho
  cases ho
  exact ⟨its, n, r, hz, e, hc, hdat⟩
theorem cr_dictP (hcalm : X.calm = true) : CallR X (.type "dict") (rDictP X.K) := by
  intro pins s σ H xs us Q I r q
  obtain ⟨a, ob, ps, kvs, ex, ha, hdn, hp, q⟩ := q
  subst ex
  obtain ⟨u, eu, rx⟩ := vals1 r
  subst eu
  cases rx
  obtain ⟨its, n, rv, hz, ho, hc, hdat⟩ := tup_plain I ha hdn
  have ei := refs_at rv
  subst ei
  rw [List.length_map] at hz
  obtain ⟨prs, rel, hl, hpr⟩ := pairs_of I hp
  -- the pairs as keys and values
  have hkv : ∃ kvl : List (Value × Value), kvl.length = prs.length ∧ ∀ (j : Nat) (q : Value × Value), kvl[j]? = some q → ∃ b k, ps[j]? = some b ∧ IsTup s.heap b #[q.1, q.2] ∧ prs[j]? = some (k, q.2) ∧ keyIs k q.1 = true := by
    have : ∀ j, j < prs.length → ∃ u, ∃ b, ∃ q : Key × Value, prs[j]? = some q ∧ ps[j]? = some b ∧ IsTup s.heap b #[u, q.2] ∧ keyIs q.1 u = true := fun j hj => by
      obtain ⟨b, u, e1, e2, e3⟩ := hpr j _ (List.getElem?_eq_getElem hj)
      exact ⟨u, b, _, List.getElem?_eq_getElem hj, e1, e2, e3⟩
    refine ⟨(List.range prs.length).map fun j => if hj : j < prs.length then ((this j hj).choose, prs[j].2) else (.none, .none), by simp, fun j q e => ?_⟩
    rw [List.getElem?_map] at e
    cases g : (List.range prs.length)[j]? with
    | none => rw [g] at e; cases e
    | some j' =>
      have hj := (List.getElem?_eq_some_iff.mp g).1
      rw [List.length_range] at hj
      rw [List.getElem?_range hj] at g
      cases g
      rw [List.getElem?_range hj] at e
      simp only [Option.map_some, dif_pos hj] at e
      cases e
      obtain ⟨b, q, e1, e2, e3, e4⟩ := (this j hj).choose_spec
      rw [List.getElem?_eq_getElem hj] at e1
      cases e1
      exact ⟨b, _, e2, e3, List.getElem?_eq_getElem hj, e4⟩
  obtain ⟨kvl, hkl, hkv⟩ := hkv
  have hT : ∀ j, j < ps.length → ps[j]? = some (ps.getD j 0) := fun j hj => by simp [List.getD, List.getElem?_eq_getElem hj]
  refine PySem.call_dict_pairs (knd := mixKind X.prog X.w) (kvs := prs) (PairArg.tuple a (ps.map Value.ref).toArray (fun j => ps.getD j 0) kvl) (I.ok.hd hcalm)
    ⟨⟨ob, n, ho, hc, hdn, hdat⟩, by simp [hkl, hl], fun j k v e => ?_⟩ ⟨hkl.symm, fun i key v e => ?_⟩ (by omega) fun h' tk hd' k => ?_
  · obtain ⟨b, kk, e1, e2, e3, e4⟩ := hkv j _ e
    have hj : j < ps.length := by have := (List.getElem?_eq_some_iff.mp e).1; omega
    have : b = ps.getD j 0 := by rw [hT j hj] at e1; exact (Option.some.inj e1).symm
    subst this
    refine ⟨?_, .inl ?_⟩
    · rw [List.getElem?_toArray, List.getElem?_map, hT j hj]; rfl
    · exact e2
  · obtain ⟨b, kk, e1, e2, e3, e4⟩ := hkv i _ e
    exact ⟨kk, e3, e4⟩
  · have hm : (s.heap.objs.size == sysModules) = false := beq_eq_false_iff_ne.mpr (Nat.ne_of_gt I.big)
    have hlen : (mergeK [] kvs).length ≤ sizeLine := by
      refine Nat.le_trans (length_mergeK kvs []) ?_
      rw [List.length_nil, Nat.zero_add, rel.length, hl]
      exact hz
    exact ⟨.ref s.heap.objs.size, upd H s.heap.objs.size (.dK (mergeK [] kvs)), I.laid (t' := tk) (fun b o e => k b o (by simp) e) (Nat.le_refl _) (show ObjOk X.prog X.w _ _ _ (.dK (mergeK [] kvs)) from ⟨hlen, hm, merged [] prs, KV.merge rel .nil, hd'⟩), rfl, q _ (I.hok.fresh (Nat.le_refl _))⟩
def dictFT : DF := fun ts S => match ts with
  | [.ft ds] => (pairsOf ds).map fun kvs => (.loc S.length, S ++ [.dic (mergeD [] kvs)])
  | _ => none
theorem dictF_ok {K : PySem.W.Frag} : CallOk K (rDictP K) dictFT := by
  intro H A S vs ts v S' hs rs h Q hq
  unfold dictFT at h
  split at h
  · obtain ⟨x, rfl, r⟩ := rs.one
    obtain ⟨kvs, e, h⟩ := Option.map_eq_some_iff.mp h
    cases h
    cases r with
    | ft s d r =>
      obtain ⟨ps, kv, rfl, q2, q3⟩ := pairsOf_ok r e
      exact ⟨_, _, ps, kv, rfl, s, d, q2, fun z hz => hq _ _ _ (Pre.app A [z]) (Keep.new hz) (hs.push hz ⟨_, upd_same, ((RKV.merge q3 (kv := []) (kvs := []) .nil)).keep (Keep.new hz)⟩) (.loc (by rw [← hs.len]; simp))⟩
  · cases h
/-! t.count(i) of a plain tuple of ints in a slot -/
def tCnt (i : Nat) (te : TE) : TE := fun σ H Q => ∃ (a : Addr) (ob : Obj) (ns : List Int), σ[i]? = some (some (V.ref a)) ∧ H a = some (.frz ob (.tup (ns.map V.int))) ∧ ob.dict = none ∧ te σ H fun y H2 => ∃ k, y = .int k ∧ H2 a = some (.frz ob (.tup (ns.map V.int))) ∧ Q (.int (ns.count k : Nat)) H2
theorem intVals : ∀ {ns : List Int} {us : List Value}, Vals (ns.map V.int) us → ∀ k : Int, (us.countP fun y => match y with | .int j _ => j == k | _ => false) = ns.count k ∧ ∀ y ∈ us, ∃ j t, y = Value.int j t
  | [], _, r, k => by cases r; exact ⟨rfl, fun y h => by simp at h⟩
  | n :: ns, _, r, k => by
    cases r with
    | cons h t =>
      obtain ⟨tk, rfl⟩ := h
      obtain ⟨e1, e2⟩ := intVals t k
      refine ⟨by rw [List.countP_cons, e1, List.count_cons], fun y hy => ?_⟩
      rcases List.mem_cons.mp hy with rfl | hy
      · exact ⟨_, _, rfl⟩
      · exact e2 y hy
theorem pe_cnt {x : Str} {px apos cpos : Pos} (i : Nat) (ho : PE X (.Name x px) (tVar i)) (he : PE X e te)
    (hbase : attributeBase (.Name x px) "count" X.env (eval (.Name x px) X.env) = eval (.Name x px) X.env := by rfl)
    (hfew : ((backTo cpos (starEach [e] X.env)).all (fun x => !x.1) && (backToKw cpos (keywordEach [] X.env)).all (fun x => x.1.isSome)
      && decide ([e].length + ([] : List Keyword).length + (if ([] : List Keyword).isEmpty then 0 else 1) < 30)) = true := by rfl)
    (hline : (apos.endLine == cpos.line) = true := by rfl) (hs : starEach [e] X.env = (false, eval e X.env) :: starEach [] X.env := by rfl) (hplain : (backTo cpos (starEach [] X.env)).any (·.1) = false := by rfl) :
    PE X (.Call (.Attribute (.Name x px) "count" apos) [e] [] cpos) (tCnt i te) := by
  refine ⟨fun pins s σ H Q I h => ?_⟩
  obtain ⟨a, ob, ns, e1, ha, hd, h⟩ := h
  refine wpAny_Call_method_late hbase hfew hline rfl (thn (ho.run pins s σ H (fun v H1 => v = .ref a ∧ H1 = H) I ⟨_, e1, rfl, rfl⟩) fun v s1 ⟨x, H1, I1, r1, q1⟩ => ?_)
  obtain ⟨rfl, rfl⟩ := q1
  cases r1
  obtain ⟨its, n, rv, hz, ho1, hc, hdat⟩ := tup_plain I1 ha hd
  refine ⟨"tuple", "tuple.count", F.plainAttrs_tuple, F.slot_tuple_count, F.type_tuple_count, ⟨ob, ho1, hc⟩, fun b eb => by cases eb; exact ⟨ob, ho1, hd⟩, ?_⟩
  have hA := (pa_cons he pa_nil hs).run cpos pins s1 σ _ (fun vs H2 => match vs with | [y] => ∃ k, y = V.int k ∧ H2 a = some (.frz ob (.tup (ns.map V.int))) ∧ Q (.int (ns.count k : Nat)) H2 | _ => False) I1 h
  rw [hs] at hA ⊢
  refine Calls.callWith_builtin (by show (false || (backTo cpos (starEach [] X.env)).any (·.1)) = false; rw [hplain] <;> rfl) (Calls.evalArgs_plain ?_)
  refine thn hA fun us s2 ⟨vs, H2, I2, r2, q3⟩ => ?_
  simp only at q3
  split at q3
  case h_2 => exact q3.elim
  obtain ⟨k, rfl, ha2, q2⟩ := q3
  obtain ⟨u, rfl, ru⟩ := vals1 r2
  obtain ⟨tk, rfl⟩ := ru
  obtain ⟨its2, n2, rv2, hz2, ho2, hc2, hdat2⟩ := tup_plain I2 ha2 hd
  obtain ⟨ec, em⟩ := intVals rv2 k
  obtain ⟨cls, dd, data, sl⟩ := ob
  simp only at hc2 hdat2
  subst hc2 hdat2
  refine call_meets F.slot_tuple_count ⟨_, ho2, rfl⟩ F.entry_tuple_count (F.args_tuple_count_2 _ _) (SeqAt.tuple_countAt a its2.toArray n2 dd sl (.int k tk) fun y => match y with | .int j _ => j == k | _ => false) ⟨ho2, fun y hy => ?_, ?_⟩
  · obtain ⟨j, t', rfl⟩ := em y (by simpa using hy)
    exact SeqAt.EqAt.int_int j t' k tk
  · rw [show its2.toArray.toList = its2 from rfl, ec]
    exact ⟨.int _, H2, I2.tok _, ⟨_, rfl⟩, q2⟩
def cntF (i : Nat) (fe : EF) : EF := fun env S => match env[i]? with
  | some (some (.ft ds)) => (intsOf ds).bind fun ns => (fe env S).bind fun y => match y.1 with
    | .p (.int k) => some (.p (.int (ns.count k : Nat)), y.2)
    | _ => none
  | _ => none
theorem pv_cnt {x : Str} {px apos cpos : Pos} (i : Nat) (ho : PE X (.Name x px) (tVar i)) (he : PV X e te fe)
    (hbase : attributeBase (.Name x px) "count" X.env (eval (.Name x px) X.env) = eval (.Name x px) X.env := by rfl)
    (hfew : ((backTo cpos (starEach [e] X.env)).all (fun x => !x.1) && (backToKw cpos (keywordEach [] X.env)).all (fun x => x.1.isSome)
      && decide ([e].length + ([] : List Keyword).length + (if ([] : List Keyword).isEmpty then 0 else 1) < 30)) = true := by rfl)
    (hline : (apos.endLine == cpos.line) = true := by rfl) (hs : starEach [e] X.env = (false, eval e X.env) :: starEach [] X.env := by rfl) (hplain : (backTo cpos (starEach [] X.env)).any (·.1) = false := by rfl) :
    PV X (.Call (.Attribute (.Name x px) "count" apos) [e] [] cpos) (tCnt i te) (cntF i fe) := by
  refine ⟨pe_cnt i ho he.pe hbase hfew hline hs hplain, ?_⟩
  intro σ H A env S v S' hE hS hf Q hq
  unfold cntF at hf
  split at hf
  · next ds e1 =>
    obtain ⟨ns, e2, hf⟩ := Option.bind_eq_some_iff.mp hf
    obtain ⟨⟨y, S1⟩, e3, hf⟩ := Option.bind_eq_some_iff.mp hf
    simp only at hf
    split at hf
    · next k =>
      cases hf
      obtain ⟨u, e4, r⟩ := hE.2 i _ e1
      cases r with
      | @ft a ob vs _ s d r =>
        rw [intsOf_eq e2] at r
        obtain rfl := r.of_ints
        refine ⟨a, ob, ns, e4, s, d, he.ok σ H A env S _ _ hE hS e3 _ fun u H1 A1 p1 k1 s1 r1 => ?_⟩
        cases r1 with
        | p r1 =>
          cases r1
          exact ⟨k, rfl, k1.frt _ _ _ s, hq _ H1 A1 p1 k1 s1 (.p (.int _))⟩
    · cases hf
  · cases hf

/-! ### repr of a text, of None; is True -/
def rRepr : List V → Hp → VK → Prop := fun xs H Q => (∃ x, xs = [V.str x] ∧ (reprText x).length ≤ sizeLine ∧ Q (.str (reprText x)) H) ∨ (xs = [V.non] ∧ Q (.str "None") H)
theorem cr_repr : CallR X (.builtin "repr") rRepr := by
  intro pins s σ H xs us Q I r h
  rcases h with ⟨x, rfl, hz, q⟩ | ⟨rfl, q⟩
  · obtain ⟨u, rfl, ru⟩ := vals1 r
    obtain ⟨t, rfl⟩ := ru
    exact PySem.P.repr_of_str ⟨.str _, H, I.tok _, ⟨_, rfl⟩, q⟩ hz
  · obtain ⟨u, rfl, ru⟩ := vals1 r
    cases ru
    exact PySem.P.repr_of_none ⟨.str _, H, I.tok _, ⟨_, rfl⟩, q⟩
def reprT : DF := fun ts S => match ts with
  | [.p (.str x)] => if (reprText x).length ≤ sizeLine then some (.p (.str (reprText x)), S) else none
  | [.p .none] => some (.p (.str "None"), S)
  | _ => none
theorem repr_ok {K : PySem.W.Frag} : CallOk K rRepr reprT := by
  intro H A S vs ts v S' hs rs h Q hq
  unfold reprT at h
  split at h
  · split at h
    · next hz =>
      cases h
      obtain ⟨x, rfl, r⟩ := rs.one
      cases r with
      | p r => cases r; exact .inl ⟨_, rfl, hz, hq _ H A (Pre.refl A) (Keep.refl H) hs (.p (.str _))⟩
    · cases h
  · cases h
    obtain ⟨x, rfl, r⟩ := rs.one
    cases r with
    | p r => cases r; exact .inr ⟨rfl, hq _ H A (Pre.refl A) (Keep.refl H) hs (.p (.str _))⟩
  · cases h
def isB (neg : Bool) : Op2 := fun x y S => match x, y with
  | .p (.bool a), .p (.bool b) => some (.p (.bool (if neg then !decide (a = b) else decide (a = b))), S)
  | _, _ => none
theorem isB_ok {K : PySem.W.Frag} : OpOk K rIsB (isB false) := by
  intro H A S x y a b v S' hs rx ry h Q hq
  unfold isB at h
  split at h
  · cases h
    cases rx with
    | p rx => cases rx; cases ry with
      | p ry => cases ry; exact ⟨_, _, rfl, rfl, hq _ H A (Pre.refl A) (Keep.refl H) hs (.p (.bl _))⟩
  · cases h
theorem notB_ok {K : PySem.W.Frag} : OpOk K rNotB (isB true) := by
  intro H A S x y a b v S' hs rx ry h Q hq
  unfold isB at h
  split at h
  · cases h
    cases rx with
    | p rx => cases rx; cases ry with
      | p ry => cases ry; exact ⟨_, _, rfl, rfl, hq _ H A (Pre.refl A) (Keep.refl H) hs (.p (.bl _))⟩
  · cases h
theorem pv_isB (ha : PV X a ta fa) (hb : PV X b tb fb) : PV X (.Compare a [.Is] [b] pos) (tOp rIsB ta tb) (binF (isB false) fa fb) := pv_cmp op_isBl isB_ok ha hb (nomark _)
theorem pv_notB (ha : PV X a ta fa) (hb : PV X b tb fb) : PV X (.Compare a [.IsNot] [b] pos) (tOp rNotB ta tb) (binF (isB true) fa fb) := pv_cmp op_notBl notB_ok ha hb (nomark _)

/-! ### a, b = x, y with plain names: the new objects behind the old ones -/
def parS (i j : Nat) (fA : AF) : SF := fun _ env S => (fA env S).bind fun x => match x.1 with
  | [a, b] => (gcTs S.length x.2.length [a, b] []).bind fun y => match y.1 with
    | [a', b'] => some (.nx, (env.set i (some a')).set j (some b'), gcOb S.length x.2 y.2)
    | _ => none
  | _ => none
theorem pvs_par {i j : Nat} {x y : Str} {px py pt : Pos} {kt k2 pt2} (hc : X.calm = true) (hN : X.N.Nodup) (hij : i ≠ j)
    (hx : X.env.scope.names.lookup x = some .local) (hy : X.env.scope.names.lookup y = some .local) (ha : PVA X [a, b] tA fA)
    (hw : swappedStores [.Tuple [.Name x px, .Name y py] kt pt] (.Tuple [a, b] k2 pt2) X.env = pure (some [x, y])) (hi : X.N[i]? = some x := by rfl) (hj : X.N[j]? = some y := by rfl)
    (hs : swapsWithSole [.Tuple [.Name x px, .Name y py] kt pt] (.Tuple [a, b] k2 pt2) pos.line X.env = pure false := by rfl) :
    PVS X (.Assign [.Tuple [.Name x px, .Name y py] kt pt] (.Tuple [a, b] k2 pt2) pos) (tPar i j tA) (parS i j fA) := by
  refine ⟨ps_par hc hN hi hj hij hx hy ha.pa hw hs, ?_⟩
  intro n σ H A env S o env' S' hn hE hS hf D hD
  obtain ⟨⟨x, S1⟩, e1, hf⟩ := Option.bind_eq_some_iff.mp hf
  simp only at hf
  split at hf
  · next u v =>
    obtain ⟨⟨y, us⟩, e2, hf⟩ := Option.bind_eq_some_iff.mp hf
    simp only at hf
    split at hf
    · next u' v' =>
      cases hf
      refine ha.ok σ H A env S _ S1 hE hS e1 _ fun vs H1 A1 p1 k1 r1 q1 => ?_
      have l1 : S.length ≤ S1.length := by have := p1.len; rw [hS.len, r1.len] at this; exact this
      obtain ⟨g, _, q⟩ := gcTs_ok r1 l1 (⟨by simp, fun _ h => by simp at h⟩ : GcU S.length S1.length []) q1 e2
      have q2 := q []
      rw [List.append_nil] at q2
      obtain ⟨w1, w2, rfl, qa, qb⟩ := q2.two
      have sm := gcA_same (A := A1) (n := S.length) (by rw [r1.len]; exact l1) us
      have pA : Pre A (gcA S.length A1 us) := fun i a e => sm i a (by rw [← hS.len]; exact (List.getElem?_eq_some_iff.mp e).1) (p1 i a e)
      exact ⟨w1, w2, rfl, hD H1 _ (pA.sameTo n) k1 (gcRS r1 l1 g) _ (((hE.keep k1 pA).set qa i).set qb j)⟩
    · cases hf
  · cases hf
end
end Pv
set_option maxHeartbeats 4000000
/-! Pv13: short words for the walks. -/
namespace Pv
open PySem PySem.Spec PyProof.Rows L2
section
variable {X : Cx} {a b e c tg it o i : Expr} {es rest elts : List Expr} {ta tb te td ti tx to : TE} {fa fb fe fd fx fo : EF} {pos p p2 tpos apos cpos : Pos} {t : TT} {f : TF} {tA : TA} {fA : AF}
theorem lt_ok {K : PySem.W.Frag} : OpOk K (rI0 fun i j => .bl (decide (i < j))) ltI := iop_ok0 fun i j H => .bl _
theorem le_ok {K : PySem.W.Frag} : OpOk K (rI0 fun i j => .bl (decide (i ≤ j))) leI := iop_ok0 fun i j H => .bl _
theorem gt_ok {K : PySem.W.Frag} : OpOk K (rI0 fun i j => .bl (decide (j < i))) gtI := iop_ok0 fun i j H => .bl _
theorem ge_ok {K : PySem.W.Frag} : OpOk K (rI0 fun i j => .bl (decide (j ≤ i))) geI := iop_ok0 fun i j H => .bl _
theorem pv_append (ho : PV X o to fo) (ha : PVA X [e] tA fA) (hbase : attributeBase o "append" X.env (eval o X.env) = eval o X.env := by rfl)
    (hfew : ((backTo cpos (starEach [e] X.env)).all (fun x => !x.1) && (backToKw cpos (keywordEach [] X.env)).all (fun x => x.1.isSome)
      && decide ([e].length + ([] : List Keyword).length + (if ([] : List Keyword).isEmpty then 0 else 1) < 30)) = true := by rfl)
    (hline : (apos.endLine == cpos.line) = true := by rfl) (hs : starEach [e] X.env = (false, eval e X.env) :: starEach [] X.env := by rfl) (hplain : (backTo cpos (starEach [] X.env)).any (·.1) = false := by rfl) :
    PV X (.Call (.Attribute o "append" apos) [e] [] cpos) (tBM X.K "list" rAppend to tA) (methF appendT fo fA) :=
  ⟨pe_bm PySem.F.plainAttrs_list PySem.F.slot_list_append PySem.F.type_list_append mt_append ho.pe ha.pa hbase hfew hline hs hplain, meth_ok append_ok ho.ok ha.ok⟩
theorem pv_popAt (ho : PV X o to fo) (ha : PVA X [e] tA fA) (hbase : attributeBase o "pop" X.env (eval o X.env) = eval o X.env := by rfl)
    (hfew : ((backTo cpos (starEach [e] X.env)).all (fun x => !x.1) && (backToKw cpos (keywordEach [] X.env)).all (fun x => x.1.isSome)
      && decide ([e].length + ([] : List Keyword).length + (if ([] : List Keyword).isEmpty then 0 else 1) < 30)) = true := by rfl)
    (hline : (apos.endLine == cpos.line) = true := by rfl) (hs : starEach [e] X.env = (false, eval e X.env) :: starEach [] X.env := by rfl) (hplain : (backTo cpos (starEach [] X.env)).any (·.1) = false := by rfl) :
    PV X (.Call (.Attribute o "pop" apos) [e] [] cpos) (tBM X.K "list" rPopAt to tA) (methF popAtT fo fA) :=
  ⟨pe_bm PySem.F.plainAttrs_list PySem.F.slot_list_pop PySem.F.type_list_pop mt_popAt ho.pe ha.pa hbase hfew hline hs hplain, meth_ok popAt_ok ho.ok ha.ok⟩
/-! the same with the frame told: what is read must not name the context -/
theorem pv_addK (K : PySem.W.Frag) (ha : PV X a ta fa) (hb : PV X b tb fb) (hK : X.K = K := by rfl) : PV X (.BinOp a .Add b pos) (tOp (rAdd K) ta tb) (binF addT fa fb) := by subst hK; exact pv_add ha hb
theorem pv_mulK (K : PySem.W.Frag) (ha : PV X a ta fa) (hb : PV X b tb fb) (hK : X.K = K := by rfl) : PV X (.BinOp a .Mult b pos) (tOp (rMul K) ta tb) (binF mulT fa fb) := by subst hK; exact pv_mul ha hb
theorem pv_eqK (K : PySem.W.Frag) (hu : X.A.units + 64 < cLine) (ha : PV X a ta fa) (hb : PV X b tb fb) (hK : X.K = K := by rfl) : PV X (.Compare a [.Eq] [b] pos) (tOp (rEqD K) ta tb) (binF (eqT false) fa fb) := by subst hK; exact pv_eq hu ha hb
theorem pv_neK (K : PySem.W.Frag) (hu : X.A.units + 64 < cLine) (ha : PV X a ta fa) (hb : PV X b tb fb) (hK : X.K = K := by rfl) : PV X (.Compare a [.NotEq] [b] pos) (tOp (rNeD K) ta tb) (binF (eqT true) fa fb) := by subst hK; exact pv_ne hu ha hb
theorem op_eqDK (K : PySem.W.Frag) (hu : X.A.units + 64 < cLine) (hK : X.K = K := by rfl) : OpR X (compareOp .Eq) (rEqD K) := by subst hK; exact op_eqD hu
theorem op_neDK (K : PySem.W.Frag) (hu : X.A.units + 64 < cLine) (hK : X.K = K := by rfl) : OpR X (compareOp .NotEq) (rNeD K) := by subst hK; exact op_neD hu
theorem pv_ixsK (K : PySem.W.Frag) (ha : PV X a ta fa) (hb : PV X b tb fb) (hs : PlainIx b) (hK : X.K = K := by rfl) : PV X (.Subscript a b pos) (tOp (rIx K) ta tb) (binF ixT fa fb) := by subst hK; exact pv_ixs ha hb hs
def rLenK (K : PySem.W.Frag) : List V → Hp → VK → Prop := fun xs H Q => (∃ p ys, xs = [V.ref p] ∧ (SqL K H p ys ∨ SqT K H p ys) ∧ Q (V.int (ys.length : Nat)) H) ∨ ((∃ x, xs = [.str x] ∧ x.length ≤ sizeLine ∧ Q (.int (x.length : Nat)) H) ∨ (∃ p ys, xs = [V.ref p] ∧ H p = some (.dK ys) ∧ Q (.int (ys.length : Nat)) H))
theorem pv_lenK (K : PySem.W.Frag) {p : Pos} (hg : Gl X "len") (hm : X.mg "len" = none) (ha : PV X e te fe) (hK : X.K = K := by rfl) (hs : starEach [e] X.env = (false, eval e X.env) :: starEach [] X.env := by rfl) (hn : ((backTo pos (starEach [] X.env)).any fun x => x.1) = false := by rfl) :
    PV X (.Call (.Name "len" p) [e] [] pos) (tCB (rLenK K) (tCons te tNil)) (argF lenT (consF fe nilF)) := by subst hK; exact pv_len hg hm ha hs hn
theorem pv_isiK (K : PySem.W.Frag) {cn : String} {x : Str} {p pc : Pos} (ha : PV X e te fe) (hg : Gl X "isinstance") (hm : X.mg "isinstance" = none) (hgc : Gl X x) (hmc : X.mg x = none) (hv : bootBuiltins x = some (.type cn)) (hK : X.K = K := by rfl) (hn : x ≠ "__name__" := by decide) (hd : (x == ("__debug__" : Str)) = false := by decide)
    (hs : starEach [e, .Name x pc] X.env = (false, eval e X.env) :: starEach [.Name x pc] X.env := by rfl) (hs2 : starEach [.Name x pc] X.env = (false, eval (.Name x pc) X.env) :: starEach [] X.env := by rfl) (hn2 : ((backTo pos (starEach [.Name x pc] X.env)).any fun x => x.1) = false := by rfl) :
    PV X (.Call (.Name "isinstance" p) [e, .Name x pc] [] pos) (tCB (rIsi K) (tCons te (tCons (tC (.ty cn)) tNil))) (isiF cn fe) := by subst hK; exact pv_isi ha hg hm hgc hmc hv hn hd hs hs2 hn2
theorem pvg_tupK (K : PySem.W.Frag) {k : Nat} {g : TGs} {ks : GFs} {n : Nat} (hc : X.calm = true) (h : PVGs X es g ks) (hK : X.K = K := by rfl) (hn : (assignEach es X.env).length = n := by rfl) (hst : (assignEach es X.env).findIdx? (·.1) = none := by rfl) : PVG X (.Tuple es k pos) (gTup K n g) (tupG n ks) := by subst hK; exact pvg_tup hc h hn hst
theorem pv_sliceK (K : PySem.W.Frag) {lo hi : Option Expr} {tl th : TO} {fl fh : OF} (he : PV X e te fe) (hl : PVO X lo tl fl) (hu : PVO X hi th fh) (hK : X.K = K := by rfl) : PV X (.Subscript e (.Slice lo hi none p2) pos) (tSl (rSlT2 K) te tl th) (sliceF fe fl fh) := by subst hK; exact pv_slice he hl hu
theorem pv_revLK (K : PySem.W.Frag) {k : Nat} {p1 p2 p3 pos : Pos} (he : PV X e te fe) (hK : X.K = K := by rfl) : PV X (.Subscript e (.Slice none none (some (.UnaryOp .USub (.Constant (.int 1) k p1) p2)) p3) pos) (tRevL K te) (revF fe) := by subst hK; exact pv_revL he
theorem pv_callK (K : PySem.W.Frag) {k : Nat} {f : Addr} {fd : FuncData} {ps : List Str} {n : Nat} {g : DF} {x : Str} {p : Pos} (F : FnOk X.prog X.w K X.mg X.base CX0 k f fd ps (spF K n g)) (hr : Room k X.A) (hg : Gl X x) (hm : X.mg x = some (.ref f)) (hk : PySem.W.keepIn K (.ref f) = true) (hb : Binds K fd ps [])
    (ha : PVA X (e :: es) tA fA) (hK : X.K = K := by rfl) (hd : (x == ("__debug__" : Str)) = false := by decide) (hs : starEach (e :: es) X.env = (false, eval e X.env) :: starEach es X.env := by rfl) (hn : ((backTo pos (starEach es X.env)).any fun x => x.1) = false := by rfl) :
    PV X (.Call (.Name x p) (e :: es) [] pos) (tCall (spF K n g) [] E0 tA) (callF n g fA) := by subst hK; exact pv_call F hr hg hm hk hb ha hd hs hn
theorem pv_appendK (K : PySem.W.Frag) (ho : PV X o to fo) (ha : PVA X [e] tA fA) (hK : X.K = K := by rfl) (hbase : attributeBase o "append" X.env (eval o X.env) = eval o X.env := by rfl)
    (hfew : ((backTo cpos (starEach [e] X.env)).all (fun x => !x.1) && (backToKw cpos (keywordEach [] X.env)).all (fun x => x.1.isSome)
      && decide ([e].length + ([] : List Keyword).length + (if ([] : List Keyword).isEmpty then 0 else 1) < 30)) = true := by rfl)
    (hline : (apos.endLine == cpos.line) = true := by rfl) (hs : starEach [e] X.env = (false, eval e X.env) :: starEach [] X.env := by rfl) (hplain : (backTo cpos (starEach [] X.env)).any (·.1) = false := by rfl) :
    PV X (.Call (.Attribute o "append" apos) [e] [] cpos) (tBM K "list" rAppend to tA) (methF appendT fo fA) := by subst hK; exact pv_append ho ha hbase hfew hline hs hplain
theorem pv_popAtK (K : PySem.W.Frag) (ho : PV X o to fo) (ha : PVA X [e] tA fA) (hK : X.K = K := by rfl) (hbase : attributeBase o "pop" X.env (eval o X.env) = eval o X.env := by rfl)
    (hfew : ((backTo cpos (starEach [e] X.env)).all (fun x => !x.1) && (backToKw cpos (keywordEach [] X.env)).all (fun x => x.1.isSome)
      && decide ([e].length + ([] : List Keyword).length + (if ([] : List Keyword).isEmpty then 0 else 1) < 30)) = true := by rfl)
    (hline : (apos.endLine == cpos.line) = true := by rfl) (hs : starEach [e] X.env = (false, eval e X.env) :: starEach [] X.env := by rfl) (hplain : (backTo cpos (starEach [] X.env)).any (·.1) = false := by rfl) :
    PV X (.Call (.Attribute o "pop" apos) [e] [] cpos) (tBM K "list" rPopAt to tA) (methF popAtT fo fA) := by subst hK; exact pv_popAt ho ha hbase hfew hline hs hplain
theorem cr_allK (K : PySem.W.Frag) (hc : X.calm = true) (hK : X.K = K := by rfl) : CallR X (.builtin "all") (rAll K) := by subst hK; exact cr_all hc
theorem cr_anyK (K : PySem.W.Frag) (hc : X.calm = true) (hK : X.K = K := by rfl) : CallR X (.builtin "any") (rAny K) := by subst hK; exact cr_any hc
theorem cr_sumK (K : PySem.W.Frag) (hc : X.calm = true) (hK : X.K = K := by rfl) : CallR X (.builtin "sum") (rSum K) := by subst hK; exact cr_sum hc
theorem cr_maxK (K : PySem.W.Frag) (hc : X.calm = true) (hK : X.K = K := by rfl) : CallR X (.builtin "max") (rMax K) := by subst hK; exact cr_max hc
theorem cr_minK (K : PySem.W.Frag) (hc : X.calm = true) (hK : X.K = K := by rfl) : CallR X (.builtin "min") (rMin K) := by subst hK; exact cr_min hc
theorem cr_sortedK (K : PySem.W.Frag) (hK : X.K = K := by rfl) : CallR X (.builtin "sorted") (rSortedQ K) := by subst hK; exact cr_sortedQ
theorem cr_tupFK (K : PySem.W.Frag) (hK : X.K = K := by rfl) : CallR X (.type "tuple") (rTupF K) := by subst hK; exact cr_tupF
theorem cr_dictPK (K : PySem.W.Frag) (hc : X.calm = true) (hK : X.K = K := by rfl) : CallR X (.type "dict") (rDictP K) := by subst hK; exact cr_dictP hc
theorem cr_tupleK (K : PySem.W.Frag) (hK : X.K = K := by rfl) : CallR X (.type "tuple") (fun xs H Q => ∃ p ys, xs = [.ref p] ∧ ((SqL K H p ys ∧ ∀ (l : Addr), H l = none → Q (V.ref l) (upd H l (HO.tup ys))) ∨ SqT K H p ys ∧ Q (V.ref p) H)) := by subst hK; exact call_tuple_of
theorem cr_listK (K : PySem.W.Frag) (hK : X.K = K := by rfl) : CallR X (.type "list") (fun xs H Q => ∃ p ys, xs = [V.ref p] ∧ (SqL K H p ys ∨ SqT K H p ys) ∧ ∀ (l : Addr), H l = none → Q (V.ref l) (upd H l (HO.lst ys))) := by subst hK; exact call_list_of
theorem cr_dictLK (K : PySem.W.Frag) (hc : X.calm = true) (hK : X.K = K := by rfl) : CallR X (.type "dict") (fun xs H Q => ∃ (a : Addr) (ps : List Addr) (kvs : List (Key × V)), xs = [.ref a] ∧ SqL K H a (ps.map V.ref) ∧ Paired (fun p kv => SqT K H p [kV kv.1, kv.2]) ps kvs ∧ ∀ p, H p = none → Q (.ref p) (upd H p (.dK (mergeK [] kvs)))) := by subst hK; exact call_dictP hc
/-- def_ok with the lengths told -/
theorem def_okN {P : Program} {w : World} {K : PySem.W.Frag} {mg : Str → Option Value} {base : Heap} {x qual : Str} {st : Stmt} {f : Addr} {fd : FuncData} {N ps : List Str} (k : Nat) {sb : SF} {np n : Nat} {m : DF} (F : Fun K x qual st f fd) (S : FnScope N ps (defScope st)) (hp : ps.length = np) (hn : N.length = n) (hm : m = defF n sb)
    (hbody : ∀ (cdv : Value) (A : Around) (outer : List PySem.Env) (s : Shared) (H : Hp) (E : XK), Room k (A.deeper (envOfC qual (defScope st) s.heap.objs.size f cdv)) →
      ∃ t, PVB (cxOf CX0 P w K mg base N qual (defScope st) f cdv A outer s H E).nox (defBody st) t sb) : FnOk P w K mg base CX0 (k + 1) f fd ps (spF K np m) := by
  subst hp hn hm
  exact def_ok F S hbody
/-- a def as its callers see it -/
def Def (P : Program) (w : World) (K : PySem.W.Frag) (mg : Str → Option Value) (base : Heap) (x : Str) (k : Nat) (ps : List Str) (n : Nat) (g : DF) : Prop :=
  ∃ (f : Addr) (fd : FuncData), FnOk P w K mg base CX0 k f fd ps (spF K n g) ∧ mg x = some (.ref f) ∧ PySem.W.keepIn K (.ref f) = true ∧ Binds K fd ps []
end
end Pv
set_option maxHeartbeats 4000000
/-! Pv14: list(zip(a, b)) of two lists, the first one's items ints or texts. -/
namespace Pv
open PySem PySem.Spec PyProof.Rows L2
theorem lz_nolen : typeLookup (.type "zip") "__len__" = pure none := by rw [typeLookup_type, builtinLookup_eq_fast]; kernel_rfl
theorem lz_nohint : typeLookup (.type "zip") "__length_hint__" = pure none := by rw [typeLookup_type, builtinLookup_eq_fast]; kernel_rfl
section
variable {prog : Program} {w : World} {knd : KeyKind prog w Key} {A : Around} {E : Value → Shared → Prop} {s : Shared} {R : Result → Shared → Prop} {kvs : List (Key × Value)} {xs ys : Array Value} {S z TI TO i1 i2 l1 l2 : Addr}
/-- the zip stands at its i-th turn -/
def LzSt (S z TI TO i1 i2 l1 l2 : Addr) (xs ys : Array Value) (i : Nat) (h : Heap) : Prop := IsPair h TI (.ref i1) (.ref i2) ∧ h.IsListIter i1 l1 i ∧ h.IsListIter i2 l2 i ∧ h.IsList l1 xs ∧ h.IsList l2 ys ∧
  ((IsZip h z TI TO .none ∧ ∃ a b, IsPair h TO a b) ∨ ∃ T f oT, IsZipHeld h z TI TO T f ∧ h.get? T = some oT ∧ T ≠ z ∧ T ≠ i1 ∧ T ≠ i2 ∧ T ≠ S)
structure LzAt (S z TI TO i1 i2 l1 l2 : Addr) : Prop where
  z : z < S
  TI : TI < S
  TO : TO < S
  i1 : i1 < S
  i2 : i2 < S
  l1 : l1 < S
  l2 : l2 < S
theorem LzSt.frame {i : Nat} {h h' : Heap} (L : LzAt S z TI TO i1 i2 l1 l2) (st : LzSt S z TI TO i1 i2 l1 l2 xs ys i h) (hk : ∀ b o, b ≠ S → h.get? b = some o → h'.get? b = some o) : LzSt S z TI TO i1 i2 l1 l2 xs ys i h' := by
  obtain ⟨hTI, h1, h2, hl1, hl2, hz⟩ := st
  have n : ∀ {c : Addr}, c < S → c ≠ S := fun h => Nat.ne_of_lt h
  refine ⟨hk _ _ (n L.TI) hTI, h1.at fun o e => hk _ o (n L.i1) e, h2.at fun o e => hk _ o (n L.i2) e, hl1.at fun o e => hk _ o (n L.l1) e, hl2.at fun o e => hk _ o (n L.l2) e, ?_⟩
  rcases hz with ⟨hz, a, b, hTO⟩ | ⟨T, f, oT, hz, hT, r1, r2, r3, r4⟩
  · exact .inl ⟨hk _ _ (n L.z) hz, a, b, hk _ _ (n L.TO) hTO⟩
  · exact .inr ⟨T, f, oT, hk _ _ (n L.z) hz, hk _ _ r4 hT, r1, r2, r3, r4⟩
theorem lz_item {i : Nat} {x y : Value} {Q : Option Value → Shared → Prop} (D : ZipApart z TI TO i1 i2 l1 l2) (L : LzAt S z TI TO i1 i2 l1 l2) (hS : S < s.heap.objs.size) (st : LzSt S z TI TO i1 i2 l1 l2 xs ys i s.heap) (ex : xs[i]? = some x) (ey : ys[i]? = some y)
    (hQ : ∀ h', LzSt S z TI TO i1 i2 l1 l2 xs ys (i + 1) h' → h'.get? s.heap.objs.size = some { cls := .type "tuple", data := .seq #[x, y] } → (∀ c o, c ≠ z → c ≠ TO → c ≠ i1 → c ≠ i2 → s.heap.get? c = some o → h'.get? c = some o) → Q (some (.ref s.heap.objs.size)) { s with heap := h' }) :
    wpAny (model prog w) A (pyNext (.ref z)) Q E s := by
  obtain ⟨hTI, h1, h2, hl1, hl2, hz⟩ := st
  have lt : ∀ {c o}, s.heap.get? c = some o → s.heap.objs.size ≠ c := fun e => Nat.ne_of_gt (Heap.lt_size e)
  have n1 : s.heap.objs.size ≠ i1 := let ⟨_, e, _⟩ := h1; lt e
  have n2 : s.heap.objs.size ≠ i2 := let ⟨_, e, _⟩ := h2; lt e
  rcases hz with ⟨hz, a, b, hTO⟩ | ⟨T, f, oT, hz, hT, r1, r2, r3, r4⟩
  · refine wpAny_pyNext_zip_item D hz hTI hTO h1 h2 hl1 hl2 ex ey fun h' a1 a2 a3 a4 a5 a6 hk => ?_
    exact hQ h' ⟨hk _ _ D.TIz D.TITO D.TIi1 D.TIi2 hTI, a3, a4, hl1.at fun o e => hk _ o D.l1z D.l1TO D.l1i1 D.l1i2 e, hl2.at fun o e => hk _ o D.l2z D.l2TO D.l2i1 D.l2i2 e,
      .inr ⟨s.heap.objs.size, false, _, a1, a5, lt hz, n1, n2, Nat.ne_of_gt hS⟩⟩ a5 hk
  · refine wpAny_pyNext_zip_item_held D hz hT hTI h1 h2 hl1 hl2 ex ey fun h' a1 a3 a4 a5 a6 hk => ?_
    exact hQ h' ⟨hk _ _ D.TIz D.TIi1 D.TIi2 hTI, a3, a4, hl1.at fun o e => hk _ o D.l1z D.l1i1 D.l1i2 e, hl2.at fun o e => hk _ o D.l2z D.l2i1 D.l2i2 e,
      .inr ⟨T, true, oT, a1, hk _ _ r1 r2 r3 hT, r1, r2, r3, r4⟩⟩ a5 fun c o c1 _ c2 c3 e => hk c o c1 c2 c3 e
theorem lz_done {i : Nat} {Q : Option Value → Shared → Prop} (hh : A.handled = none) (D : ZipApart z TI TO i1 i2 l1 l2) (st : LzSt S z TI TO i1 i2 l1 l2 xs ys i s.heap) (hend : xs[i]? = none ∨ ys[i]? = none)
    (hQ : ∀ h', (∀ c o, c ≠ z → c ≠ TO → c ≠ i1 → c ≠ i2 → s.heap.get? c = some o → h'.get? c = some o) → Q none { s with heap := h' }) : wpAny (model prog w) A (pyNext (.ref z)) Q E s := by
  obtain ⟨hTI, h1, h2, hl1, hl2, hz⟩ := st
  rcases hz with ⟨hz, a, b, hTO⟩ | ⟨T, f, oT, hz, hT, r1, r2, r3, r4⟩
  · exact wpAny_pyNext_zip_end hh D hz hTI hTO h1 h2 hl1 hl2 hend hQ
  · exact wpAny_pyNext_zip_end_held hh D hz hT hTI h1 h2 hl1 hl2 hend fun h' hk => hQ h' fun c o c1 _ c2 c3 e => hk c o c1 c2 c3 e
/-- what is zipped, by keys and values -/
def LzKv (knd : KeyKind prog w Key) (xs ys : Array Value) (kvs : List (Key × Value)) : Prop := kvs.length = min xs.size ys.size ∧ ∀ (j : Nat) (k : Key) (v : Value), kvs[j]? = some (k, v) → ∃ key, xs[j]? = some key ∧ knd.is k key = true ∧ ys[j]? = some v
theorem lz_loop (hh : A.handled = none) (D : ZipApart z TI TO i1 i2 l1 l2) (L : LzAt S z TI TO i1 i2 l1 l2) (hkv : LzKv knd xs ys kvs) (hn : kvs.length ≤ sizeLine) (res : Value) {h₁ : Heap}
    (hR : ∀ h' tk acc c as, (∀ b o, b ≠ S → b ≠ z → b ≠ TO → b ≠ i1 → b ≠ i2 → h₁.get? b = some o → h'.get? b = some o) → h'.get? S = some { cls := .type "list", dict := none, data := .seq acc c, slots := #[] } → as.length = kvs.length → PySem.W.KdxG knd kvs S h' as →
      acc.toList = as.map Value.ref → R (.ok (.ret res)) { s with heap := h', toks := tk }) :
    ∀ (k i : Nat) (h : Heap) (tk c : Nat) (acc : Array Value) (as : List Addr), kvs.length - i = k → i ≤ kvs.length → LzSt S z TI TO i1 i2 l1 l2 xs ys i h → (∀ b o, b ≠ S → b ≠ z → b ≠ TO → b ≠ i1 → b ≠ i2 → h₁.get? b = some o → h.get? b = some o) →
      h.get? S = some { cls := .type "list", dict := none, data := .seq acc c, slots := #[] } → acc.toList = as.map Value.ref → as.length = i → PySem.W.KdxG knd kvs S h as →
      codeAny (model prog w) A (.builtin "list.extend.loop" ⟨[.ref S, .ref z, res], []⟩) R { s with heap := h, toks := tk } := by
  have n : ∀ {c : Addr}, c < S → S ≠ c := fun h => Nat.ne_of_gt h
  intro k
  induction k with
  | zero =>
    intro i h tk c acc as hk hi hst hkeep hS hacc hal hG
    have hin : i = kvs.length := by omega
    have hend : xs[i]? = none ∨ ys[i]? = none := by
      rw [hin, hkv.1]
      rcases Nat.le_total xs.size ys.size with h | h
      · exact .inl (Array.getElem?_eq_none (by rw [Nat.min_eq_left h]; exact Nat.le_refl _))
      · exact .inr (Array.getElem?_eq_none (by rw [Nat.min_eq_right h]; exact Nat.le_refl _))
    refine codeAny_builtin PySem.F.entry_extend_loop ?_
    rw [Around.under_plainId PySem.F.plain_extend_loop _]
    show wpAny _ A.in1 (pyNext (.ref z) >>= _) _ _ _
    refine wpAny_bind (lz_done (s := { s with heap := h, toks := tk }) (A := A.in1) hh D hst hend fun h' he => ?_)
    refine wpAny_pure (hR h' tk acc c as (fun b o h0 h1 h2 h3 h4 e => he b o h1 h2 h3 h4 (hkeep b o h0 h1 h2 h3 h4 e)) (he S _ (n L.z) (n L.TO) (n L.i1) (n L.i2) hS) (by omega) ⟨hG.rise, hG.above, fun j a hj => ?_⟩ hacc)
    obtain ⟨key, kk, x, e1, e2, e3⟩ := hG.pairs j a hj
    have ha := hG.above a (List.mem_of_getElem? hj)
    have m : ∀ {c : Addr}, c < S → a ≠ c := fun h => Nat.ne_of_gt (Nat.lt_trans h ha)
    exact ⟨key, kk, x, e1, e2, he a _ (m L.z) (m L.TO) (m L.i1) (m L.i2) e3⟩
  | succ k ih =>
    intro i h tk c acc as hk hi hst hkeep hS hacc hal hG
    have hlt : i < kvs.length := by omega
    obtain ⟨⟨kk, x⟩, hx⟩ : ∃ p, kvs[i]? = some p := ⟨kvs[i], List.getElem?_eq_getElem hlt⟩
    obtain ⟨key, ex, hkey, ey⟩ := hkv.2 i kk x hx
    have hsz : acc.size = i := by rw [← Array.length_toList, hacc, List.length_map, hal]
    have hSl : S < h.objs.size := Heap.lt_size hS
    refine codeAny_builtin PySem.F.entry_extend_loop ?_
    rw [Around.under_plainId PySem.F.plain_extend_loop _]
    show wpAny _ A.in1 (pyNext (.ref z) >>= _) _ _ _
    refine wpAny_bind (lz_item (s := { s with heap := h, toks := tk }) D L hSl hst ex ey fun h' hst' ht hkp => ?_)
    dsimp only at ht hkp ⊢
    have hS' := hkp S _ (n L.z) (n L.TO) (n L.i1) (n L.i2) hS
    have up : ∀ b o, b ≠ S → h'.get? b = some o → (h'.update S (Obj.mapSeq (·.push (Value.ref h.objs.size)))).get? b = some o := fun b o hb e => (Heap.get?_update_other _ _ (Ne.symm hb)).trans e
    show wpAny _ A.in1 (updateSeq S (·.push (Value.ref h.objs.size)) >>= _) _ _ _
    refine wpAny_bind ?_
    refine wpAny_updateSeq hS' rfl (wpAny_pure ⟨plainId_quiet PySem.F.plain_extend_loop _, ih (i + 1) _ tk _ (acc.push (Value.ref h.objs.size)) (as ++ [h.objs.size]) (by omega) hlt (hst'.frame L up)
      (fun b o h0 h1 h2 h3 h4 e => up b o h0 (hkp b o h1 h2 h3 h4 (hkeep b o h0 h1 h2 h3 h4 e))) (Heap.get?_update_self _ hS' rfl) (by rw [Array.toList_push, hacc, List.map_append]; rfl) (by rw [List.length_append, hal]; rfl) ⟨?_, ?_, ?_⟩⟩) (by rw [hsz]; omega) (by show (acc.push (Value.ref h.objs.size)).size ≤ sizeLine + 1; rw [Array.size_push, hsz]; omega)
    · refine List.pairwise_append.mpr ⟨hG.rise, List.pairwise_singleton _ _, fun a ha b hb => ?_⟩
      rw [List.mem_singleton.mp hb]
      exact hG.there ha
    · intro a ha
      rcases List.mem_append.mp ha with ha | ha
      · exact hG.above a ha
      · rw [List.mem_singleton.mp ha]; exact hSl
    · intro j b hj
      rcases Nat.lt_trichotomy j as.length with h1 | h1 | h1
      · rw [List.getElem?_append_left h1] at hj
        obtain ⟨key', k', x', e1, e2, e3⟩ := hG.pairs j b hj
        have hb := hG.above b (List.mem_of_getElem? hj)
        have m : ∀ {c : Addr}, c < S → b ≠ c := fun h => Nat.ne_of_gt (Nat.lt_trans h hb)
        exact ⟨key', k', x', e1, e2, up b _ (Nat.ne_of_gt hb) (hkp b _ (m L.z) (m L.TO) (m L.i1) (m L.i2) e3)⟩
      · subst h1
        have hb : h.objs.size = b := by simpa using hj
        subst hb
        exact ⟨key, kk, x, by rw [hal]; exact hx, hkey, up _ _ (Nat.ne_of_gt hSl) ht⟩
      · have hnone : (as ++ [h.objs.size])[j]? = none := List.getElem?_eq_none (by rw [List.length_append, List.length_singleton]; omega)
        rw [hnone] at hj; cases hj
theorem lz_extend (hh : A.handled = none) (D : ZipApart z TI TO i1 i2 l1 l2) (L : LzAt S z TI TO i1 i2 l1 l2) (hkv : LzKv knd xs ys kvs) (hn : kvs.length ≤ sizeLine) (res : Value) (c₀ : Nat)
    (hst : LzSt S z TI TO i1 i2 l1 l2 xs ys 0 s.heap) (hz0 : IsZip s.heap z TI TO .none) (hS : s.heap.get? S = some { cls := .type "list", data := .seq #[] c₀ })
    (hR : ∀ h' tk acc c as, (∀ b o, b ≠ S → b ≠ z → b ≠ TO → b ≠ i1 → b ≠ i2 → s.heap.get? b = some o → h'.get? b = some o) → h'.get? S = some { cls := .type "list", dict := none, data := .seq acc c, slots := #[] } → as.length = kvs.length → PySem.W.KdxG knd kvs S h' as →
      acc.toList = as.map Value.ref → R (.ok (.ret res)) { s with heap := h', toks := tk }) :
    wpAny (model prog w) A.in1 (Builtin.List.listExtendWith (.ref S) (.ref z) res)
      (fun fin s' => match fin with | .done f => R (.ok f) s' | .again c' => c'.quiet = true ∧ codeAny (model prog w) A c' R s') (fun e s' => R (.error e) s') s := by
  have hSz : S ≠ z := Nat.ne_of_gt L.z
  have hTy : ∀ s' : Shared, s'.heap = s.heap → s'.TypeIs (.ref z) "zip" := fun s' e => ⟨_, by rw [e]; exact hz0, rfl⟩
  unfold Builtin.List.listExtendWith
  refine wpAny_bind (wpAny_typeOf (hTy _ rfl) ?_)
  have h1 : Builtin.List.listSameRef (.ref S) (.ref z) = false := by simp [Builtin.List.listSameRef, hSz]
  have h2 : (Value.type "zip" == Value.type "list") = false := by decide
  have h3 : (Value.type "zip" == Value.type "tuple") = false := by decide
  simp only [h1, h2, h3, Bool.or_false, Bool.false_eq_true, if_false]
  have hit : wpAny (model prog w) A.in1 (pyIter (.ref z)) (fun v s' => v = .ref z ∧ s' = s) (fun e s' => R (.error e) s') s := wpAny_pyIter_zip hz0 ⟨rfl, rfl⟩
  refine wpAny_bind (wpAny_mono hit (fun v s' hv => ?_) fun _ _ e => e)
  obtain ⟨rfl, rfl⟩ := hv
  refine wpAny_bind (wpAny_holding ?_)
  unfold Builtin.List.listLengthHint
  refine wpAny_bind (wpAny_specialOf (hTy _ rfl) lz_nolen ?_)
  show wpAny _ A.in1 (specialOf (Value.ref z) (Str.ofString "__length_hint__") >>= _) _ _ _
  refine wpAny_bind (wpAny_specialOf (hTy _ rfl) lz_nohint ?_)
  refine wpAny_pure ?_
  show wpAny _ A.in1 (rule "list.extend.makes-room" >>= fun _ => Builtin.List.listTouch (.ref S) >>= fun _ =>
    again (.builtin "list.extend.loop" ⟨[.ref S, .ref z, res], []⟩)) _ _ _
  refine wpAny_bind (wpAny_rule ?_)
  refine wpAny_bind ?_
  show wpAny _ A.in1 (updateSeq S (·.push .none) >>= fun _ => updateSeq S (·.pop)) _ _ _
  refine wpAny_bind (wpAny_updateSeq hS rfl ?_)
  have hS₂ := Heap.get?_update_self (Obj.mapSeq (·.push Value.none)) hS rfl
  refine wpAny_updateSeq (hz := by seq_fits) hS₂ rfl ?_
  have hS₃ := Heap.get?_update_self (Obj.mapSeq (·.pop)) hS₂ rfl
  have oth : ∀ b o, b ≠ S → s'.heap.get? b = some o → ((s'.heap.update S (Obj.mapSeq (·.push Value.none))).update S (Obj.mapSeq (·.pop))).get? b = some o :=
    fun b o hb e => (Heap.get?_update_other _ _ (Ne.symm hb)).trans ((Heap.get?_update_other _ _ (Ne.symm hb)).trans e)
  exact wpAny_pure ⟨plainId_quiet PySem.F.plain_extend_loop _, lz_loop hh D L hkv hn res (fun h' tk acc c as hk hS' hl hG hacc => hR h' tk acc c as hk hS' hl hG hacc) kvs.length 0 _ _ _ _ [] (Nat.sub_zero _) (Nat.zero_le _)
    (hst.frame L oth) (fun b o h0 _ _ _ _ e => oth b o h0 e) hS₃ rfl rfl ⟨List.Pairwise.nil, (fun _ ha => nomatch ha), (fun j a hj => by simp at hj)⟩⟩
theorem lz_init (hh : A.handled = none) (D : ZipApart z TI TO i1 i2 l1 l2) (L : LzAt S z TI TO i1 i2 l1 l2) (hkv : LzKv knd xs ys kvs) (hn : kvs.length ≤ sizeLine)
    (hst : LzSt S z TI TO i1 i2 l1 l2 xs ys 0 s.heap) (hz0 : IsZip s.heap z TI TO .none) (hS : s.heap.get? S = some { cls := .type "list", data := .seq #[] })
    (hR : ∀ h' tk acc c as, (∀ b o, b ≠ S → b ≠ z → b ≠ TO → b ≠ i1 → b ≠ i2 → s.heap.get? b = some o → h'.get? b = some o) → h'.get? S = some { cls := .type "list", dict := none, data := .seq acc c, slots := #[] } → as.length = kvs.length → PySem.W.KdxG knd kvs S h' as →
      acc.toList = as.map Value.ref → R (.ok (.ret .none)) { s with heap := h', toks := tk }) :
    wpAny (model prog w) A.in1 (Builtin.«list.__init__» ⟨[.ref S, .ref z], []⟩)
      (fun fin s' => match fin with | .done f => R (.ok f) s' | .again c' => c'.quiet = true ∧ codeAny (model prog w) A c' R s') (fun e s' => R (.error e) s') s := by
  show wpAny _ _ (do let old ← Builtin.List.listItems (.ref S); Builtin.List.listUpdate (.ref S) (fun _ => #[]); letGo old.toList.reverse; Builtin.List.listExtendWith (.ref S) (.ref z) .none) _ _ s
  refine wpAny_bind ?_
  unfold Builtin.List.listItems
  refine wpAny_bind (wpAny_seqItems hS rfl (wpAny_pure ?_))
  show wpAny _ _ (updateSeq S (fun _ => #[]) >>= fun _ => letGo (#[] : Array Value).toList.reverse >>= fun _ => Builtin.List.listExtendWith (.ref S) (.ref z) .none) _ _ s
  refine wpAny_bind (wpAny_updateSeq hS rfl ?_)
  have hS₂ := Heap.get?_update_self (Obj.mapSeq (fun _ => (#[] : Array Value))) hS rfl
  have oth : ∀ b o, b ≠ S → s.heap.get? b = some o → (s.heap.update S (Obj.mapSeq (fun _ => (#[] : Array Value)))).get? b = some o :=
    fun b o hb e => (Heap.get?_update_other _ _ (Ne.symm hb)).trans e
  refine wpAny_bind (wpAny_letGo ?_)
  refine lz_extend hh D L hkv hn .none _ (hst.frame L oth) (oth _ _ (Nat.ne_of_lt L.z) hz0) hS₂ (fun h' tk acc c as hk hS' hl hG hacc => ?_)
  exact hR h' tk acc c as (fun b o h0 h1 h2 h3 h4 e => hk b o h0 h1 h2 h3 h4 (oth b o h0 e)) hS' hl hG hacc
theorem lz_call {Q : Value → Shared → Prop} (hh : A.handled = none) (D : ZipApart z TI TO i1 i2 l1 l2) (L : LzAt s.heap.objs.size z TI TO i1 i2 l1 l2) (hkv : LzKv knd xs ys kvs) (hn : kvs.length ≤ sizeLine)
    (hst : ∀ h : Heap, (∀ b o, s.heap.get? b = some o → h.get? b = some o) → LzSt s.heap.objs.size z TI TO i1 i2 l1 l2 xs ys 0 h) (hz0 : IsZip s.heap z TI TO .none)
    (hQ : ∀ h' tk acc c as, (∀ b o, b ≠ z → b ≠ TO → b ≠ i1 → b ≠ i2 → s.heap.get? b = some o → h'.get? b = some o) → h'.get? s.heap.objs.size = some { cls := .type "list", dict := none, data := .seq acc c, slots := #[] } → as.length = kvs.length → PySem.W.KdxG knd kvs s.heap.objs.size h' as →
      acc.toList = as.map Value.ref → Q (.ref s.heap.objs.size) { s with heap := h', toks := tk }) :
    wpAny (model prog w) A (call (.type "list") [.ref z]) Q E s := by
  refine callType_codes (Q₁ := fun obj s₁ => obj = .ref s.heap.objs.size ∧ s₁ = { s with heap := s.heap.push { cls := .type "list", data := .seq #[] } }) PySem.F.called_list (PySem.F.typeCall_list_1 _) PySem.F.entry_list_init
    (code_list_new _ ⟨rfl, rfl⟩) fun obj s₁ h₁ => ?_
  obtain ⟨rfl, rfl⟩ := h₁
  have hS : (s.heap.push { cls := .type "list", data := .seq #[] }).get? s.heap.objs.size = some { cls := .type "list", data := .seq #[] } := Heap.get?_push_size _ rfl
  refine ⟨⟨_, hS, rfl⟩, PySem.F.args_list_init_2 _ _, lz_init (A := A.in1) hh D L hkv hn (hst _ fun b o e => Heap.get?_push_of_some _ e) (Heap.get?_push_of_some _ hz0) hS (fun h' tk acc c as hk hS' hl hG hacc => ?_)⟩
  exact ⟨rfl, hQ h' tk acc c as (fun b o h1 h2 h3 h4 e => hk b o (Nat.ne_of_lt (Heap.lt_size e)) h1 h2 h3 h4 (Heap.get?_push_of_some _ e)) hS' hl hG hacc⟩
end
section
variable {X : Cx} {a b e : Expr} {pos p p2 tpos : Pos} {tA : TA} {fA : AF}
/-- a new list of new pairs, at once -/
theorem pairs_laid {pins : List (Addr × Obj)} {σ : L2.St} {H : Hp} {s : Shared} {h' : Heap} {tk : Nat} {kv : List (Key × V)} {vs : List (Key × Value)} {acc : Array Value} {c : Nat} {as : List Addr} {p : Addr} (I : Inv X pins σ H s) (hz : kv.length ≤ sizeLine) (rv : KV kv vs)
    (hk : ∀ b o, s.heap.get? b = some o → h'.get? b = some o) (hp : s.heap.objs.size ≤ p) (hS : h'.get? p = some { cls := .type "list", dict := none, data := .seq acc c, slots := #[] }) (hl : as.length = vs.length) (hG : PySem.W.KdxG (mixKind X.prog X.w) vs p h' as) (hacc : acc.toList = as.map Value.ref) :
    ∃ H' : Hp, (∀ b o, H b = some o → H' b = some o) ∧ H p = none ∧ p ∉ as ∧ H' p = some (.lst (as.map V.ref)) ∧ Paired (fun (t : Addr) (q : Key × V) => H' t = some (.tup [kV q.1, q.2])) as kv ∧ Inv X pins σ H' { s with heap := h', toks := tk } := by
  have e0 : kv.length = vs.length := Paired.length rv
  have up : ∀ t ∈ as, s.heap.objs.size ≤ t := fun t ht => Nat.le_trans hp (Nat.le_of_lt (hG.above t ht))
  have pn : p ∉ as := fun z => absurd (hG.above _ z) (Nat.lt_irrefl _)
  have fr : ∀ t ∈ as, H t = none := fun t ht => I.hok.fresh (up t ht)
  have frp : H p = none := I.hok.fresh hp
  have tP := LiI.putT_at as kv (upd H p (.lst (as.map V.ref))) (by omega) (hG.rise.imp fun h => Nat.ne_of_lt h)
  have away : ∀ b, b ∉ as → b ≠ p → LiI.putT (upd H p (.lst (as.map V.ref))) as kv b = H b := fun b x1 x2 => (LiI.putT_off as kv _ x1).trans (upd_ne x2)
  have below : ∀ b o, s.heap.get? b = some o → b ∉ as ∧ b ≠ p := fun b o e => by
    have hb := Heap.lt_size e
    exact ⟨fun z => Nat.lt_irrefl _ (Nat.lt_of_lt_of_le hb (up b z)), Nat.ne_of_lt (Nat.lt_of_lt_of_le hb hp)⟩
  have same : ∀ b u, H b = some u → LiI.putT (upd H p (.lst (as.map V.ref))) as kv b = some u := fun b u e => by
    refine (away b (fun z => ?_) fun z => ?_).trans e
    · rw [fr b z] at e; cases e
    · subst z; rw [frp] at e; cases e
  have atp : LiI.putT (upd H p (.lst (as.map V.ref))) as kv p = some (.lst (as.map V.ref)) := (LiI.putT_off as kv _ pn).trans upd_same
  refine ⟨_, same, frp, pn, atp, tP, I.call' (ch := []) rfl ?_ (fun b u q => ?_) I.bare fun b z => by simp at z⟩
  · exact ⟨fun b o q _ _ _ => hk b o q, fun b o q _ _ _ => ⟨o.slots, hk b o q⟩, fun b o q n _ => (away b (below b o q).1 (below b o q).2).trans n, fun b o q _ => ⟨o, hk b o q⟩, fun b xs q => same b _ q, fun b o u q => same b _ q, fun b ps q => ⟨#[], by rw [same b _ q, Array.append_empty]⟩⟩
  · by_cases hb : b ∈ as
    · obtain ⟨j, pk, g1, g2, g3⟩ := LiI.paired_ix tP hb
      obtain rfl : u = .tup [kV pk.1, pk.2] := Option.some.inj (q.symm.trans g3)
      obtain ⟨key, k, x, f1, f2, f3⟩ := hG.pairs j b g1
      obtain ⟨qv, w1, w2, w3⟩ := LiI.paired_get rv g2
      obtain rfl : qv = (k, x) := Option.some.inj (w1.symm.trans f1)
      have rk : RelV (kV pk.1) key := w2 ▸ relV_key (show keyIs k key = true from f2)
      exact ⟨show 2 ≤ sizeLine by decide, [key, x], .cons rk (.cons w3 .nil), _, f3, rfl, _, rfl⟩
    · by_cases hb2 : b = p
      · subst hb2
        obtain rfl : u = .lst (as.map V.ref) := Option.some.inj (q.symm.trans atp)
        refine ⟨by rw [List.length_map]; omega, acc.toList, c, hacc ▸ LiI.vals_refs as, ?_⟩
        exact (Array.toArray_toList (xs := acc)).symm ▸ hS
      · rw [away b hb hb2] at q
        exact (I.hok b u q).stay (fun d v _ y => hk d v y) (fun d y => same d _ y) fun d xs y => same d _ y
/-- list(zip(xs, ys)), the items of xs keys: new pairs, told as a dict's would be -/
def tLzip (K : PySem.W.Frag) (tA : TA) : TE := fun σ H Q => tA σ H fun vs H1 => ∃ (a b : Addr) (kv : List (Key × V)) (xs ys : List V), vs = [V.ref a, V.ref b] ∧ SqL K H1 a xs ∧ SqL K H1 b ys ∧ kv.length = min xs.length ys.length ∧
  (∀ (j : Nat) (q : Key × V), kv[j]? = some q → xs[j]? = some (kV q.1) ∧ ys[j]? = some q.2) ∧
  ∀ (H' : Hp) (as : List Addr) (l : Addr), (∀ c ob, H1 c = some ob → H' c = some ob) → Paired (fun (c : Addr) (q : Key × V) => H' c = some (.tup [kV q.1, q.2])) as kv → H1 l = none → l ∉ as → H' l = some (.lst (as.map V.ref)) → Q (.ref l) H'
theorem pe_lzip (hc : X.calm = true) (hg : Gl X "list") (hm : X.mg "list" = none) (hg2 : Gl X "zip") (hm2 : X.mg "zip" = none) (ha : PA X [a, b] tA)
    (na : starEach [.Call (.Name "zip" p) [a, b] [] pos] X.env = (false, eval (.Call (.Name "zip" p) [a, b] [] pos) X.env) :: starEach [] X.env := by rfl) (nb : starEach [a, b] X.env = (false, eval a X.env) :: starEach [b] X.env := by rfl) (hpl : (backTo pos (starEach [b] X.env)).any (·.1) = false := by rfl) :
    PE X (.Call (.Name "list" p2) [.Call (.Name "zip" p) [a, b] [] pos] [] tpos) (tLzip X.K tA) := by
  refine ⟨fun pins s σ H Q I h => ?_⟩
  refine Call_ (ld_blt I hg hm boot_list (PyProof.Rows.callWith_type1 (args_cons ?_ na) na))
  refine Call_ (ld_blt I hg2 hm2 PyProof.Rows.boot_zip (PyProof.Rows.callWith_type1 (thn (ha.run pos pins s σ H _ I h) fun us s1 ⟨vs, H1, I1, r1, q1⟩ => ?_) nb hpl))
  obtain ⟨a, b, kv, xs, ys, ex, hqx, hqy, hkl, hkx, q⟩ := q1
  subst ex
  cases r1 with
  | cons r rr =>
    cases rr with
    | cons r' rr =>
      cases rr
      cases r
      cases r'
      obtain ⟨its, rv, p1, hz1⟩ := I1.list hqx
      obtain ⟨its2, rv2, p2, hz2⟩ := I1.list hqy
      have hl1 := rv.length
      have hl2 := rv2.length
      refine call_zip_2 p1.isList p2.isList fun h' hz hTI hTO h1 h2 hsz hk => ?_
      refine args_nil ?_
      have I2 : Inv X pins σ H1 { s1 with heap := h' } := I1.kept (t' := s1.toks) hk
      have la := p1.lt
      have lb := p2.lt
      have D := PySem.W.ktu_apart s1.heap.objs.size a b la lb
      -- keys and values
      have hkv : ∃ kvs : List (Key × Value), KV kv kvs ∧ LzKv (mixKind X.prog X.w) its.toArray its2.toArray kvs := by
        have pt : ∀ j, j < kv.length → ∃ (key : Value) (v : Value), its[j]? = some key ∧ its2[j]? = some v ∧ ∀ q, kv[j]? = some q → RelV (kV q.1) key ∧ RelV q.2 v := fun j hj => by
          have e := List.getElem?_eq_getElem hj
          obtain ⟨e1, e2⟩ := hkx j _ e
          obtain ⟨key, f1, g1⟩ := rv.get e1
          obtain ⟨v, f2, g2⟩ := rv2.get e2
          exact ⟨key, v, f1, f2, fun q eq => by rw [e] at eq; cases eq; exact ⟨g1, g2⟩⟩
        refine ⟨(List.range kv.length).map fun j => if hj : j < kv.length then (kv[j].1, (pt j hj).choose_spec.choose) else (.inl 0, .none), ?_, ?_, fun j k v e => ?_⟩
        · have : ∀ (n : Nat), n ≤ kv.length → KV (kv.take n) ((List.range n).map fun j => if hj : j < kv.length then (kv[j].1, (pt j hj).choose_spec.choose) else (.inl 0, .none)) := fun n => by
            induction n with
            | zero => intro _; exact .nil
            | succ n ih =>
              intro hn
              have hn' : n < kv.length := hn
              rw [List.range_succ, List.map_append, List.take_succ, List.getElem?_eq_getElem hn']
              have key := (pt n hn').choose_spec.choose_spec.2.2 _ (List.getElem?_eq_getElem hn')
              have app : ∀ {l₁ l₂ : List (Key × V)} {m₁ m₂ : List (Key × Value)}, KV l₁ m₁ → KV l₂ m₂ → KV (l₁ ++ l₂) (m₁ ++ m₂) := fun {l₁ l₂ m₁ m₂} x y => by
                induction x with
                | nil => exact y
                | cons h t ih => exact .cons h ih
              refine app (ih (by omega)) ?_
              simp only [List.map_cons, List.map_nil, dif_pos hn', Option.toList]
              exact .cons ⟨rfl, key.2⟩ .nil
          have := this kv.length (Nat.le_refl _)
          rwa [List.take_length] at this
        · simp [hkl, hl1, hl2]
        · rw [List.getElem?_map] at e
          cases g : (List.range kv.length)[j]? with
          | none => rw [g] at e; cases e
          | some j' =>
            have hj := (List.getElem?_eq_some_iff.mp g).1
            rw [List.length_range] at hj
            rw [List.getElem?_range hj] at g e
            cases g
            simp only [Option.map_some, dif_pos hj] at e
            cases e
            have sp := (pt j hj).choose_spec.choose_spec
            have key := sp.2.2 _ (List.getElem?_eq_getElem hj)
            exact ⟨(pt j hj).choose, by simpa using sp.1, kV_is (P := X.prog) (w := X.w) key.1, by simpa using sp.2.1⟩
      obtain ⟨kvs, rkv, hkv⟩ := hkv
      have hlen : kvs.length ≤ sizeLine := by
        have := hkv.1
        simp only [List.size_toArray] at this
        omega
      have lt : ∀ k : Nat, k < 5 → s1.heap.objs.size + k < h'.objs.size := fun k hk => by rw [hsz]; exact Nat.add_lt_add_left hk _
      have lt0 : ∀ c : Addr, c ≤ s1.heap.objs.size → c < h'.objs.size := fun c hc => by rw [hsz]; exact Nat.lt_of_le_of_lt hc (Nat.lt_add_of_pos_right (by decide))
      refine lz_call (s := { s1 with heap := h' }) (I2.ok.hd hc) D ⟨lt 4 (by decide), lt 2 (by decide), lt 3 (by decide), lt0 _ (Nat.le_refl _), lt 1 (by decide), lt0 _ (Nat.le_of_lt la), lt0 _ (Nat.le_of_lt lb)⟩ hkv hlen
        (fun h k => ⟨k _ _ hTI, h1.at fun o e => k _ o e, h2.at fun o e => k _ o e, (p1.isList.at fun o e => k _ o (hk _ o e)), (p2.isList.at fun o e => k _ o (hk _ o e)), .inl ⟨k _ _ hz, _, _, k _ _ hTO⟩⟩) hz fun h'' tk acc c as hk2 hS hl hG hacc => ?_
      have old : ∀ b o, s1.heap.get? b = some o → h''.get? b = some o := fun b o e => by
        have hb := Heap.lt_size e
        exact hk2 b o (Nat.ne_of_lt (Nat.lt_add_right 4 hb)) (Nat.ne_of_lt (Nat.lt_add_right 3 hb)) (Nat.ne_of_lt hb) (Nat.ne_of_lt (Nat.lt_add_right 1 hb)) (hk b o e)
      obtain ⟨H', k1, k2, k3, k4, k5, J⟩ := pairs_laid (tk := tk) I1 (by omega) rkv old (Nat.le_of_lt (lt0 _ (Nat.le_refl _))) hS hl hG hacc
      exact ⟨.ref _, H', J, rfl, q H' as _ k1 k5 k2 k3 k4⟩
/-- the list joins the store -/
theorem RS.add {K : PySem.W.Frag} {H : Hp} {A : List Addr} {S : Sto} {p : Addr} {ob : O} (h : RS K H A S) (hn : p ∉ A) (q : RO K H p ob) : RS K H (A ++ [p]) (S ++ [ob]) := by
  refine ⟨by simp [h.len], ?_, fun i a ob' e q' => ?_⟩
  · rw [List.nodup_append]
    refine ⟨h.nd, by simp, fun a ha b hb => ?_⟩
    have : b = p := by simpa using hb
    subst this
    exact fun z => hn (z ▸ ha)
  · by_cases hi : i < A.length
    · rw [List.getElem?_append_left hi] at e
      rw [List.getElem?_append_left (h.len ▸ hi)] at q'
      exact h.ob i a ob' e q'
    · have hi' : A.length ≤ i := Nat.le_of_not_lt hi
      rw [List.getElem?_append_right hi'] at e
      rw [List.getElem?_append_right (h.len ▸ hi')] at q'
      have z : i - A.length = 0 := by
        have := (List.getElem?_eq_some_iff.mp e).1
        simp at this; omega
      rw [z] at e
      rw [h.len] at z
      rw [z] at q'
      simp at e q'
      subst e; subst q'
      exact q
def keysD : List D → Option (List Key)
  | [] => some []
  | d :: ds => (keyOf d).bind fun k => (keysD ds).map fun ks => k :: ks
def lzipF (fA : AF) : EF := fun env S => (fA env S).bind fun x => match x.1 with
  | [a, b] => (lstOf x.2 a).bind fun u => (keysD u).bind fun _ => (lstOf x.2 b).map fun v => (.loc x.2.length, x.2 ++ [.lst (zipD u v)])
  | _ => none
/-- the keys and the values of two rows side by side -/
theorem lz_kv {K : PySem.W.Frag} {H : Hp} : ∀ {xs : List V} {ds : List D} {ks : List Key} {ys : List V} {es : List D}, Rps K H xs ds → keysD ds = some ks → Rps K H ys es →
    ∃ (kv : List (Key × V)) (kvs : KD), kv.length = min xs.length ys.length ∧ (∀ (j : Nat) (q : Key × V), kv[j]? = some q → xs[j]? = some (kV q.1) ∧ ys[j]? = some q.2) ∧ RKV K H kv kvs ∧ itemsD kvs = zipD ds es
  | _, _, _, _, _, .nil, _, _ => ⟨[], [], by simp, fun j q e => by simp at e, .nil, rfl⟩
  | _, _, _, _, _, .cons r t, _, .nil => ⟨[], [], by simp, fun j q e => by simp at e, .nil, rfl⟩
  | _, d :: ds, _, _, e :: es, .cons r t, hk, .cons r' t' => by
    simp only [keysD] at hk
    obtain ⟨k, e1, hk⟩ := Option.bind_eq_some_iff.mp hk
    obtain ⟨ks, e2, hk⟩ := Option.map_eq_some_iff.mp hk
    obtain rfl := keyOf_ok r e1
    obtain ⟨kv, kvs, l, h, rr, z⟩ := lz_kv t e2 t'
    refine ⟨(k, _) :: kv, (k, e) :: kvs, by simp [l], fun j q ej => ?_, .cons ⟨rfl, r'⟩ rr, ?_⟩
    · cases j with
      | zero => have : (k, _) = q := Option.some.inj ej; subst this; exact ⟨rfl, rfl⟩
      | succ j => exact h j q (by simpa using ej)
    · have ed : dK k = d := by
        cases d <;> simp only [keyOf] at e1 <;> cases e1 <;> rfl
      show .tuple [dK k, e] :: itemsD kvs = .tuple [d, e] :: zipD ds es
      rw [z, ed]
theorem pv_lzip (hc : X.calm = true) (hg : Gl X "list") (hm : X.mg "list" = none) (hg2 : Gl X "zip") (hm2 : X.mg "zip" = none) (ha : PVA X [a, b] tA fA)
    (na : starEach [.Call (.Name "zip" p) [a, b] [] pos] X.env = (false, eval (.Call (.Name "zip" p) [a, b] [] pos) X.env) :: starEach [] X.env := by rfl) (nb : starEach [a, b] X.env = (false, eval a X.env) :: starEach [b] X.env := by rfl) (hpl : (backTo pos (starEach [b] X.env)).any (·.1) = false := by rfl) :
    PV X (.Call (.Name "list" p2) [.Call (.Name "zip" p) [a, b] [] pos] [] tpos) (tLzip X.K tA) (lzipF fA) := by
  refine ⟨pe_lzip hc hg hm hg2 hm2 ha.pa na nb hpl, ?_⟩
  intro σ H A env S v S' hE hS hf Q hq
  obtain ⟨⟨x, S1⟩, e1, hf⟩ := Option.bind_eq_some_iff.mp hf
  simp only at hf
  split at hf
  · next ta tb =>
    obtain ⟨u, e2, hf⟩ := Option.bind_eq_some_iff.mp hf
    obtain ⟨ks, e3, hf⟩ := Option.bind_eq_some_iff.mp hf
    obtain ⟨w, e4, hf⟩ := Option.map_eq_some_iff.mp hf
    cases hf
    refine ha.ok σ H A env S _ S1 hE hS e1 _ fun us H1 A1 p1 k1 s1 r1 => ?_
    obtain ⟨y, z, rfl, ry, rz⟩ := r1.two
    obtain ⟨a1, xs, rfl, hx, rx⟩ := lstOf_ok s1 ry e2
    obtain ⟨b1, ys, rfl, hy, ryy⟩ := lstOf_ok s1 rz e4
    obtain ⟨kv, kvs, hl, hkv, rk, hzip⟩ := lz_kv rx e3 ryy
    refine ⟨a1, b1, kv, xs, ys, rfl, hx, hy, hl, hkv, fun H' as l ho hp hn hla hl' => ?_⟩
    have kk := keep_of ho
    have sH := s1.same ho
    have nl : l ∉ A1 := s1.not_mem hn
    refine hq _ H' (A1 ++ [l]) (p1.trans (Pre.app A1 [l])) (k1.trans kk) (sH.add nl ⟨_, hl', ?_⟩) (.loc (by rw [← s1.len]; simp))
    rw [← hzip]
    exact pairs_data hp kk rk
  · cases hf
end
end Pv
set_option maxHeartbeats 4000000
/-! Pv15: how the plain functions are run: each step as a row to rewrite by, what follows kept closed behind a name. -/
namespace Pv
open PySem PySem.Spec PyProof.Rows L2
section
variable {fa fb fc fe fi fd fx fv fo f : EF} {t u : TF} {fA : AF} {env : Env} {S : Sto} {v w : T} {n i j m : Nat} {d : D} {s1 s2 : SF} {b : Bool} {g g' : Op2} {vs : List T} {k l : Int}
/-! expressions -/
@[simp] theorem e_con : conF d env S = some (.p d, S) := Eq.trans rfl rfl
def varK (S : Sto) : Option (Option T) → Option (T × Sto)
  | some (some t) => some (dn t, S)
  | _ => none
@[simp] theorem e_var : varF i env S = varK S env[i]? := by unfold varF varK; rfl
@[simp] theorem e_varK {t : T} : varK S (some (some t)) = some (dn t, S) := Eq.trans rfl rfl
def rawK (S : Sto) : Option (Option T) → Option (T × Sto)
  | some (some t) => some (t, S)
  | _ => none
@[simp] theorem e_raw : rawF i env S = rawK S env[i]? := by unfold rawF rawK; rfl
@[simp] theorem e_rawK {t : T} : rawK S (some (some t)) = some (t, S) := Eq.trans rfl rfl
def bin2 (g : Op2) (v : T) (y : T × Sto) : Option (T × Sto) := g v y.1 y.2
def bin1 (g : Op2) (fb : EF) (env : Env) (x : T × Sto) : Option (T × Sto) := (fb env x.2).bind (bin2 g x.1)
@[simp] theorem e_bin : binF g fa fb env S = (fa env S).bind (bin1 g fb env) := Eq.trans rfl rfl
@[simp] theorem e_bin1 : bin1 g fb env (v, S) = (fb env S).bind (bin2 g v) := Eq.trans rfl rfl
@[simp] theorem e_bin2 : bin2 g v (w, S) = g v w S := Eq.trans rfl rfl
def un1 (g : Op1) (x : T × Sto) : Option (T × Sto) := g x.1 x.2
@[simp] theorem e_un {g : Op1} : unF g fa env S = (fa env S).bind (un1 g) := Eq.trans rfl rfl
@[simp] theorem e_un1 {g : Op1} : un1 g (v, S) = g v S := Eq.trans rfl rfl
@[simp] theorem e_neg : negF (.p (.int k)) S = some (.p (.int (-k)), S) := Eq.trans rfl rfl
@[simp] theorem e_sub : subI (.p (.int k)) (.p (.int l)) S = some (.p (.int (k - l)), S) := Eq.trans rfl rfl
@[simp] theorem e_lt : ltI (.p (.int k)) (.p (.int l)) S = some (.p (.bool (decide (k < l))), S) := Eq.trans rfl rfl
@[simp] theorem e_le : leI (.p (.int k)) (.p (.int l)) S = some (.p (.bool (decide (k ≤ l))), S) := Eq.trans rfl rfl
@[simp] theorem e_gt : gtI (.p (.int k)) (.p (.int l)) S = some (.p (.bool (decide (l < k))), S) := Eq.trans rfl rfl
@[simp] theorem e_ge : geI (.p (.int k)) (.p (.int l)) S = some (.p (.bool (decide (l ≤ k))), S) := Eq.trans rfl rfl
@[simp] theorem e_ip : (iop fun i j => some (.int (i + j))) (.p (.int k)) (.p (.int l)) S = some (.p (.int (k + l)), S) := Eq.trans rfl rfl
@[simp] theorem e_mod (h : 0 < l) : modI (.p (.int k)) (.p (.int l)) S = some (.p (.int (k % l)), S) := by show ((if 0 < l then _ else _ : Option D)).map _ = _; rw [if_pos h]; rfl
@[simp] theorem e_div (h : CDiv k l) : divI (.p (.int k)) (.p (.int l)) S = some (.p (.int (k / l)), S) := by show ((if CDiv k l then _ else _ : Option D)).map _ = _; rw [if_pos h]; rfl
@[simp] theorem e_mulI (h : CMul k l) : mulI (.p (.int k)) (.p (.int l)) S = some (.p (.int (k * l)), S) := by show ((if CMul k l then _ else _ : Option D)).map _ = _; rw [if_pos h]; rfl
@[simp] theorem e_pow (h : CPowA k l) : powA (.p (.int k)) (.p (.int l)) S = some (.p (.int (k ^ l.toNat)), S) := by show ((if CPowA k l then _ else _ : Option D)).map _ = _; rw [if_pos h]; rfl
@[simp] theorem e_add : addT (.p (.int k)) (.p (.int l)) S = some (.p (.int (k + l)), S) := Eq.trans rfl rfl
@[simp] theorem e_addP {xs ys : List D} (h1 : xs.length + ys.length ≤ sizeLine) (h2 : xs ≠ [] ∨ ys ≠ []) : addT (.p (.tuple xs)) (.p (.tuple ys)) S = some (.p (.tuple (xs ++ ys)), S) := by show (if _ then _ else _) = _; rw [if_pos ⟨h1, h2⟩]
@[simp] theorem e_addL {xs ys : List D} (h : S[i]? = some (.lst xs)) (h' : S[j]? = some (.lst ys)) (h1 : xs.length + ys.length ≤ sizeLine) : addT (.loc i) (.loc j) S = some (.loc S.length, S ++ [.lst (xs ++ ys)]) := by simp only [addT, h, h', if_pos h1]
@[simp] theorem e_mulP {xs : List D} (h : -(2 ^ 63) ≤ k ∧ k ≤ 1000 ∧ xs.length ≤ 1000) : mulT (.p (.tuple xs)) (.p (.int k)) S = some (.p (.tuple (repD k xs)), S) := by show (if _ then _ else _) = _; rw [if_pos h]
@[simp] theorem e_eq {b : Bool} {x y : T} {d e : D} (h1 : datOf S x = some d) (h2 : datOf S y = some e) (h3 : deep d = true) (h4 : deep e = true) : eqT b x y S = some (.p (.bool (if b then !PyData.eqv d e else PyData.eqv d e)), S) := by simp only [eqT, h1, h2, h3, h4, and_self, if_true]
@[simp] theorem e_isN {x : T} : isN b x (.p .none) S = some (.p (.bool (if b then !isNone x else isNone x)), S) := Eq.trans rfl rfl
@[simp] theorem e_isB {x y : Bool} : isB b (.p (.bool x)) (.p (.bool y)) S = some (.p (.bool (if b then !decide (x = y) else decide (x = y))), S) := Eq.trans rfl rfl
def chK3 (g' : Op2) (y : T) (w : T × Sto) : Option (T × Sto) := g' y w.1 w.2
def chK2 (g' : Op2) (fc : EF) (env : Env) (y : T) (z : T × Sto) : Option (T × Sto) := match z.1 with
  | .p (.bool true) => (fc env z.2).bind (chK3 g' y)
  | .p (.bool false) => some (.p (.bool false), z.2)
  | _ => none
def chK1 (g g' : Op2) (fc : EF) (env : Env) (x : T) (y : T × Sto) : Option (T × Sto) := (g x y.1 y.2).bind (chK2 g' fc env y.1)
def chK0 (g g' : Op2) (fb fc : EF) (env : Env) (x : T × Sto) : Option (T × Sto) := (fb env x.2).bind (chK1 g g' fc env x.1)
@[simp] theorem e_chain : chainF g g' fa fb fc env S = (fa env S).bind (chK0 g g' fb fc env) := Eq.trans rfl rfl
@[simp] theorem e_ch0 : chK0 g g' fb fc env (v, S) = (fb env S).bind (chK1 g g' fc env v) := Eq.trans rfl rfl
@[simp] theorem e_ch1 : chK1 g g' fc env v (w, S) = (g v w S).bind (chK2 g' fc env w) := Eq.trans rfl rfl
@[simp] theorem e_ch2 (h : b = true) : chK2 g' fc env w (.p (.bool b), S) = (fc env S).bind (chK3 g' w) := by subst h; rfl
@[simp] theorem e_ch2f (h : b = false) : chK2 g' fc env w (.p (.bool b), S) = some (.p (.bool false), S) := by subst h; rfl
@[simp] theorem e_ch3 : chK3 g' v (w, S) = g' v w S := Eq.trans rfl rfl
def andK (fb : EF) (env : Env) (x : T × Sto) : Option (T × Sto) := match x.1 with
  | .p (.bool true) => fb env x.2
  | .p (.bool false) => some (.p (.bool false), x.2)
  | _ => none
@[simp] theorem e_and : andF fa fb env S = (fa env S).bind (andK fb env) := Eq.trans rfl rfl
@[simp] theorem e_and1 (h : b = true) : andK fb env (.p (.bool b), S) = fb env S := by subst h; rfl
@[simp] theorem e_and0 (h : b = false) : andK fb env (.p (.bool b), S) = some (.p (.bool false), S) := by subst h; rfl
def orK (fb : EF) (env : Env) (x : T × Sto) : Option (T × Sto) := match x.1 with
  | .p (.bool true) => some (.p (.bool true), x.2)
  | .p (.bool false) => fb env x.2
  | _ => none
@[simp] theorem e_or : orF fa fb env S = (fa env S).bind (orK fb env) := Eq.trans rfl rfl
@[simp] theorem e_or1 (h : b = true) : orK fb env (.p (.bool b), S) = some (.p (.bool true), S) := by subst h; rfl
@[simp] theorem e_or0 (h : b = false) : orK fb env (.p (.bool b), S) = fb env S := by subst h; rfl
def notK (x : T × Sto) : Option (T × Sto) := match x.1 with
  | .p (.bool c) => some (.p (.bool (!c)), x.2)
  | _ => none
@[simp] theorem e_not : notF fa env S = (fa env S).bind notK := Eq.trans rfl rfl
@[simp] theorem e_notK : notK (.p (.bool b), S) = some (.p (.bool (!b)), S) := Eq.trans rfl rfl
def ifEK (fa fb : EF) (env : Env) (x : Bool × Sto) : Option (T × Sto) := if x.1 = true then fa env x.2 else fb env x.2
@[simp] theorem e_if : ifF t fa fb env S = (t env S).bind (ifEK fa fb env) := Eq.trans rfl rfl
@[simp] theorem e_if1 (h : b = true) : ifEK fa fb env (b, S) = fa env S := by subst h; rfl
@[simp] theorem e_if0 (h : b = false) : ifEK fa fb env (b, S) = fb env S := by subst h; rfl
/-! tests -/
def asK (x : T × Sto) : Option (Bool × Sto) := match x.1 with
  | .p (.bool c) => some (c, x.2)
  | _ => none
@[simp] theorem e_as : asT fa env S = (fa env S).bind asK := Eq.trans rfl rfl
@[simp] theorem e_asK : asK (.p (.bool b), S) = some (b, S) := Eq.trans rfl rfl
def andTK (u : TF) (env : Env) (x : Bool × Sto) : Option (Bool × Sto) := if x.1 = true then u env x.2 else some (false, x.2)
@[simp] theorem e_andT : andT t u env S = (t env S).bind (andTK u env) := Eq.trans rfl rfl
@[simp] theorem e_andT1 (h : b = true) : andTK u env (b, S) = u env S := by subst h; rfl
@[simp] theorem e_andT0 (h : b = false) : andTK u env (b, S) = some (false, S) := by subst h; rfl
def orTK (u : TF) (env : Env) (x : Bool × Sto) : Option (Bool × Sto) := if x.1 = true then some (true, x.2) else u env x.2
@[simp] theorem e_orT : orT t u env S = (t env S).bind (orTK u env) := by
  unfold orT orTK; rfl
@[simp] theorem e_orT1 (h : b = true) : orTK u env (b, S) = some (true, S) := by subst h; rfl
@[simp] theorem e_orT0 (h : b = false) : orTK u env (b, S) = u env S := by subst h; rfl
def notTK (x : Bool × Sto) : Bool × Sto := (!x.1, x.2)
@[simp] theorem e_notT : notT t env S = (t env S).map notTK := Eq.trans rfl rfl
@[simp] theorem e_notTK : notTK (b, S) = (!b, S) := Eq.trans rfl rfl
/-! rows of arguments, displays, calls -/
@[simp] theorem e_nil : nilF env S = some ([], S) := Eq.trans rfl rfl
def consK2 (v : T) (y : List T × Sto) : List T × Sto := (v :: y.1, y.2)
def consK1 (fA : AF) (env : Env) (x : T × Sto) : Option (List T × Sto) := (fA env x.2).map (consK2 x.1)
@[simp] theorem e_cons : consF fa fA env S = (fa env S).bind (consK1 fA env) := Eq.trans rfl rfl
@[simp] theorem e_cons1 : consK1 fA env (v, S) = (fA env S).map (consK2 v) := Eq.trans rfl rfl
@[simp] theorem e_cons2 : consK2 v (vs, S) = (v :: vs, S) := Eq.trans rfl rfl
def tupK (x : List T × Sto) : Option (T × Sto) := if x.1.length ≤ sizeLine then some (tupT x.1, x.2) else none
@[simp] theorem e_tup : tupF fA env S = (fA env S).bind tupK := Eq.trans rfl rfl
@[simp] theorem e_tupK (h : vs.length ≤ 1000) : tupK (vs, S) = some (tupT vs, S) := by unfold tupK; rw [if_pos (Nat.le_trans h (by rw [sizeLine_eq]; decide))]
def lstK (x : List T × Sto) : Option (T × Sto) := match allP x.1 with
  | some ds => if ds.length ≤ sizeLine then some (.loc x.2.length, x.2 ++ [.lst ds]) else none
  | none => none
@[simp] theorem e_lst : lstF fA env S = (fA env S).bind lstK := Eq.trans rfl rfl
@[simp] theorem e_lstK {ds : List D} (h : allP vs = some ds) (h2 : ds.length ≤ 1000) : lstK (vs, S) = some (.loc S.length, S ++ [.lst ds]) := by
  unfold lstK; simp only [h]; rw [if_pos (Nat.le_trans h2 (by rw [sizeLine_eq]; decide))]
def callK (n : Nat) (g : DF) (x : List T × Sto) : Option (T × Sto) := if x.1.length = n then g x.1 x.2 else none
@[simp] theorem e_call {g : DF} : callF n g fA env S = (fA env S).bind (callK n g) := Eq.trans rfl rfl
@[simp] theorem e_callK {g : DF} (h : vs.length = n) : callK n g (vs, S) = g vs S := by unfold callK; rw [if_pos h]
def argK (g : DF) (x : List T × Sto) : Option (T × Sto) := g x.1 x.2
@[simp] theorem e_arg {g : DF} : argF g fA env S = (fA env S).bind (argK g) := Eq.trans rfl rfl
@[simp] theorem e_argK {g : DF} : argK g (vs, S) = g vs S := Eq.trans rfl rfl
def isiK (c : String) (x : T × Sto) : Option (T × Sto) := (tyName x.2 x.1).bind fun n => (kitB n c).map fun b => (.p (.bool b), x.2)
@[simp] theorem e_isi {c : String} : isiF c fa env S = (fa env S).bind (isiK c) := Eq.trans rfl rfl
theorem kit_int_int : kitB "int" "int" = some true := by decide +kernel
theorem kit_int_bool : kitB "int" "bool" = some false := by decide +kernel
theorem kit_tup_tup : kitB "tuple" "tuple" = some true := by decide +kernel
@[simp] theorem e_isi_ii : isiK "int" (.p (.int k), S) = some (.p (.bool true), S) := by simp only [isiK, tyName, Option.bind_some, kit_int_int, Option.map_some]
@[simp] theorem e_isi_ib : isiK "bool" (.p (.int k), S) = some (.p (.bool false), S) := by simp only [isiK, tyName, Option.bind_some, kit_int_bool, Option.map_some]
@[simp] theorem e_isi_tt {ds : List D} : isiK "tuple" (.p (.tuple ds), S) = some (.p (.bool true), S) := by simp only [isiK, tyName, Option.bind_some, kit_tup_tup, Option.map_some]
@[simp] theorem e_int : intT [.p (.int k)] S = some (.p (.int k), S) := Eq.trans rfl rfl
@[simp] theorem e_intB : intT [.p (.bool b)] S = some (.p (.int (if b then 1 else 0)), S) := Eq.trans rfl rfl
@[simp] theorem e_abs : absT [.p (.int k)] S = some (.p (.int (if k < 0 then -k else k)), S) := Eq.trans rfl rfl
@[simp] theorem e_max2 : max2T [.p (.int k), .p (.int l)] S = some (.p (.int (if l > k then l else k)), S) := Eq.trans rfl rfl
@[simp] theorem e_min2 : min2T [.p (.int k), .p (.int l)] S = some (.p (.int (if l < k then l else k)), S) := Eq.trans rfl rfl
@[simp] theorem e_lenP {ds : List D} : lenT [.p (.tuple ds)] S = some (.p (.int (ds.length : Nat)), S) := Eq.trans rfl rfl
@[simp] theorem e_lenR {ds : List D} : lenT [.ro ds] S = some (.p (.int (ds.length : Nat)), S) := Eq.trans rfl rfl
@[simp] theorem e_lenL {ds : List D} (h : S[i]? = some (.lst ds)) : lenT [.loc i] S = some (.p (.int (ds.length : Nat)), S) := by simp only [lenT, h]
@[simp] theorem e_lenD {ds : KD} (h : S[i]? = some (.dic ds)) : lenT [.loc i] S = some (.p (.int (ds.length : Nat)), S) := by simp only [lenT, h]
@[simp] theorem e_sumL {ns : List Int} (h : S[i]? = some (.lst (ns.map PyData.int))) : sumT [.loc i] S = some (.p (.int ns.sum), S) := by simp only [sumT, lstOf, h, Option.bind_some, intsOf_map, Option.map_some]
@[simp] theorem e_allL {b : Bool} {bs : List Bool} (h : S[i]? = some (.lst (bs.map PyData.bool))) : allT b [.loc i] S = some (.p (.bool (if b then bs.any id else bs.all id)), S) := by simp only [allT, lstOf, h, Option.bind_some, boolsOf_map, Option.map_some]
@[simp] theorem e_tuple {ds : List D} (h : S[i]? = some (.lst ds)) : tupleT [.loc i] S = some (.p (.tuple ds), S) := by simp only [tupleT, seqOf, h, Option.map_some]
@[simp] theorem e_tupleF {ds : List D} (h : S[i]? = some (.lst ds)) : tupleFT [.loc i] S = some (.ft ds, S) := by simp only [tupleFT, lstOf, h, Option.map_some]
@[simp] theorem e_listL {ds : List D} (h : S[i]? = some (.lst ds)) : listT [.loc i] S = some (.loc S.length, S ++ [.lst ds]) := by simp only [listT, seqOf, h, Option.map_some]
@[simp] theorem e_listP {ds : List D} : listT [.p (.tuple ds)] S = some (.loc S.length, S ++ [.lst ds]) := Eq.trans rfl rfl
@[simp] theorem e_dict {ds : List D} {kvs : KD} (h : S[i]? = some (.lst ds)) (h2 : pairsOf ds = some kvs) : dictT [.loc i] S = some (.loc S.length, S ++ [.dic (mergeD [] kvs)]) := by simp only [dictT, lstOf, h, Option.bind_some, h2, Option.map_some]
@[simp] theorem e_dictF {ds : List D} {kvs : KD} (h2 : pairsOf ds = some kvs) : dictFT [.ft ds] S = some (.loc S.length, S ++ [.dic (mergeD [] kvs)]) := by simp only [dictFT, h2, Option.map_some]
@[simp] theorem e_sorted {ds es : List D} (h : S[i]? = some (.lst ds)) (h2 : sortD ds = some es) : sortedT [.loc i] S = some (.loc S.length, S ++ [.lst es]) := by simp only [sortedT, seqOf, h, Option.bind_some, h2, Option.map_some]
@[simp] theorem e_ixL {ds : List D} (h : S[i]? = some (.lst ds)) : ixT (.loc i) (.p (.int k)) S = (atI ds k).map fun d => (.p d, S) := by simp only [ixT, seqOf, h, Option.bind_some]
@[simp] theorem e_ixP {ds : List D} : ixT (.p (.tuple ds)) (.p (.int k)) S = (atI ds k).map fun d => (.p d, S) := Eq.trans rfl rfl
@[simp] theorem e_ixR {ds : List D} : ixT (.ro ds) (.p (.int k)) S = (atI ds k).map fun d => (.p d, S) := Eq.trans rfl rfl
@[simp] theorem e_ixM {ts : List T} : ixT (.mix ts) (.p (.int k)) S = (atI ts k).map fun t => (t, S) := Eq.trans rfl rfl
/-! statements -/
@[simp] theorem s_next : nextS n env S = some (.nx, env, S) := Eq.trans rfl rfl
def seqK (g : SF) (n : Nat) (x : Out × Env × Sto) : Option (Out × Env × Sto) := match x.1 with
  | .nx => g n x.2.1 x.2.2
  | o => some (o, x.2.1, x.2.2)
@[simp] theorem s_seq : seqS s1 s2 n env S = (s1 n env S).bind (seqK s2 n) := Eq.trans rfl rfl
@[simp] theorem s_seqN : seqK s2 n (.nx, env, S) = s2 n env S := Eq.trans rfl rfl
@[simp] theorem s_seqR : seqK s2 n (.rt v, env, S) = some (.rt v, env, S) := Eq.trans rfl rfl
@[simp] theorem s_seqB : seqK s2 n (.bk, env, S) = some (.bk, env, S) := Eq.trans rfl rfl
def retK (env : Env) (x : T × Sto) : Out × Env × Sto := (.rt x.1, env, x.2)
@[simp] theorem s_ret : retS fa n env S = (fa env S).map (retK env) := Eq.trans rfl rfl
@[simp] theorem s_retK : retK env (v, S) = (.rt v, env, S) := Eq.trans rfl rfl
def exprK (env : Env) (n : Nat) (x : T × Sto) : Out × Env × Sto := (.nx, env, x.2.take n)
@[simp] theorem s_expr : exprS fa n env S = (fa env S).map (exprK env S.length) := Eq.trans rfl rfl
@[simp] theorem s_exprK : exprK env m (v, S) = (.nx, env, S.take m) := Eq.trans rfl rfl
def ifK (s1 s2 : SF) (n : Nat) (env : Env) (m : Nat) (x : Bool × Sto) : Option (Out × Env × Sto) := if x.1 = true then s1 n env (x.2.take m) else s2 n env (x.2.take m)
@[simp] theorem s_if : ifS t s1 s2 n env S = (t env S).bind (ifK s1 s2 n env S.length) := Eq.trans rfl rfl
@[simp] theorem s_if1 (h : b = true) : ifK s1 s2 n env m (b, S) = s1 n env (S.take m) := by subst h; rfl
@[simp] theorem s_if0 (h : b = false) : ifK s1 s2 n env m (b, S) = s2 n env (S.take m) := by subst h; rfl
def setK2 (n0 i m : Nat) (env : Env) (y : T × Sto) : Out × Env × Sto := putSlot n0 i m y.1 env y.2
def setK1 (n0 i m : Nat) (env : Env) (x : T × Sto) : Option (Out × Env × Sto) := (gcV m x.1 x.2).map (setK2 n0 i m env)
@[simp] theorem s_set : setS i fa n env S = (fa env S).bind (setK1 n i S.length env) := Eq.trans rfl rfl
@[simp] theorem s_set1 : setK1 n i m env (v, S) = (gcV m v S).map (setK2 n i m env) := Eq.trans rfl rfl
@[simp] theorem s_set2 {d : D} : setK2 n i m env (.p d, S) = (.nx, env.set i (some (.p d)), S) := Eq.trans rfl rfl
@[simp] theorem s_set2f {ds : List D} : setK2 n i m env (.ft ds, S) = (.nx, env.set i (some (.ft ds)), S) := Eq.trans rfl rfl
@[simp] theorem s_set2m {ts : List T} : setK2 n i m env (.mix ts, S) = (.nx, env.set i (some (.mix ts)), S) := Eq.trans rfl rfl
@[simp] theorem s_set2l {j : Nat} : setK2 n i m env (.loc j, S) = putLoc n i m j env S := Eq.trans rfl rfl
def asgK2 (g : GF) (env : Env) (y : T × Sto) : Option (Out × Env × Sto) := (g y.1 env y.2).map fun z => (.nx, z.1, z.2)
def asgK1 (g : GF) (m : Nat) (env : Env) (x : T × Sto) : Option (Out × Env × Sto) := (gcV m x.1 x.2).bind (asgK2 g env)
@[simp] theorem s_asg {g : GF} : asgS fa g n env S = (fa env S).bind (asgK1 g S.length env) := Eq.trans rfl rfl
@[simp] theorem s_asg1 {g : GF} : asgK1 g m env (v, S) = (gcV m v S).bind (asgK2 g env) := Eq.trans rfl rfl
@[simp] theorem s_asg2 {g : GF} : asgK2 g env (v, S) = (g v env S).map fun z => (.nx, z.1, z.2) := Eq.trans rfl rfl
@[simp] theorem gc_p {d : D} : gcV m (.p d) S = some (.p d, S.take m) := Eq.trans rfl rfl
@[simp] theorem gc_ft {ds : List D} (h : m ≤ S.length) : gcV m (.ft ds) S = some (.ft ds, S.take m) := by simp [gcV, gcT, gcOb]
@[simp] theorem gc_new {o : O} (h : S.length = m) : gcV m (.loc m) (S ++ [o]) = some (.loc m, S ++ [o]) := by subst h; simp [gcV, gcT, gcOb]
@[simp] theorem gc_old (h : j < m) : gcV m (.loc j) S = some (.loc j, S.take m) := by simp [gcV, gcT, gcOb, h]
/-- a def run -/
theorem m_run {n : Nat} {b : SF} {ts : List T} : defF n b ts S = (b S.length (ts.map some ++ List.replicate (n - ts.length) none) S).bind (fun z => match z.1 with
  | .rt r => gcV S.length r z.2.2
  | .nx => some (.p .none, z.2.2.take S.length)
  | _ => none) := rfl
theorem m_ret {n : Nat} {b : SF} {ts : List T} {r : T} {env' : Env} {S' : Sto} {x : T × Sto} (h : b S.length (ts.map some ++ List.replicate (n - ts.length) none) S = some (.rt r, env', S')) (hg : gcV S.length r S' = some x) : defF n b ts S = some x := by
  rw [m_run, h]; exact hg
theorem m_end {n : Nat} {b : SF} {ts : List T} {env' : Env} {S' : Sto} (h : b S.length (ts.map some ++ List.replicate (n - ts.length) none) S = some (.nx, env', S')) : defF n b ts S = some (.p .none, S'.take S.length) := by
  rw [m_run, h]; rfl
end
end Pv
set_option maxHeartbeats 4000000
/-! Pv16: loops, comprehensions, stores into lists and dicts, run. -/
namespace Pv
open PySem PySem.Spec PyProof.Rows L2
section
variable {fa fb fc fe fi fd fx fv fo fk f : EF} {t u ft : TF} {fA : AF} {env env' : Env} {S S' : Sto} {v w : T} {n i j m M : Nat} {d : D} {s1 s2 sb : SF} {b : Bool} {g g' : Op2} {vs : List T} {k l : Int} {gf : GF} {gfs : GFs} {itf : IF}
/-! o[i] = v -/
def setLK3 (env : Env) (M : Nat) (v o : T) (i : T × Sto) : Option (Out × Env × Sto) := match v, o, i.1 with
  | .p d, .loc n, .p (.int k) => match i.2[n]? with
    | some (.lst xs) => (ixN xs.length k).map fun j => (.nx, env, (i.2.set n (.lst (xs.set j d))).take M)
    | _ => none
  | _, _, _ => none
def setLK2 (fi : EF) (env : Env) (M : Nat) (v : T) (o : T × Sto) : Option (Out × Env × Sto) := (fi env o.2).bind (setLK3 env M v o.1)
def setLK1 (fo fi : EF) (env : Env) (M : Nat) (v : T × Sto) : Option (Out × Env × Sto) := (fo env v.2).bind (setLK2 fi env M v.1)
@[simp] theorem s_setL : setLS fo fi fv n env S = (fv env S).bind (setLK1 fo fi env S.length) := Eq.trans rfl rfl
@[simp] theorem s_setL1 : setLK1 fo fi env M (v, S) = (fo env S).bind (setLK2 fi env M v) := Eq.trans rfl rfl
@[simp] theorem s_setL2 : setLK2 fi env M v (w, S) = (fi env S).bind (setLK3 env M v w) := Eq.trans rfl rfl
@[simp] theorem s_setL3 {xs : List D} (h : S[i]? = some (.lst xs)) (h2 : ixN xs.length k = some j) : setLK3 env M (.p d) (.loc i) (.p (.int k), S) = some (.nx, env, (S.set i (.lst (xs.set j d))).take M) := by
  simp only [setLK3, h, h2, Option.map_some]
/-! methods -/
def methK1 (g : MF) (x : T) (y : List T × Sto) : Option (T × Sto) := g x y.1 y.2
def methK0 (g : MF) (fA : AF) (env : Env) (x : T × Sto) : Option (T × Sto) := if isLst x.2 x.1 = true then (fA env x.2).bind (methK1 g x.1) else none
@[simp] theorem e_meth {g : MF} : methF g fe fA env S = (fe env S).bind (methK0 g fA env) := Eq.trans rfl rfl
@[simp] theorem e_meth0 {g : MF} {xs : List D} (h : S[i]? = some (.lst xs)) : methK0 g fA env (.loc i, S) = (fA env S).bind (methK1 g (.loc i)) := by simp only [methK0, isLst, h, if_true]
@[simp] theorem e_meth1 {g : MF} : methK1 g v (vs, S) = g v vs S := Eq.trans rfl rfl
@[simp] theorem e_append {xs : List D} (h : S[i]? = some (.lst xs)) (h2 : xs.length < sizeLine) : appendT (.loc i) [.p d] S = some (.p .none, S.set i (.lst (xs ++ [d]))) := by simp only [appendT, h, if_pos h2]
@[simp] theorem e_popAt {xs : List D} (h : S[i]? = some (.lst xs)) (h2 : 0 ≤ k ∧ k < (xs.length : Int) ∧ k < 2 ^ 63) : popAtT (.loc i) [.p (.int k)] S = (xs[k.toNat]?).map fun d => (.p d, S.set i (.lst (xs.eraseIdx k.toNat))) := by simp only [popAtT, h, if_pos h2]
/-! iterables -/
def tupIK (x : T × Sto) : Option (List D × Gd × Sto) := match x.1 with
  | .p (.tuple ds) => some (ds, [], x.2)
  | _ => none
@[simp] theorem i_tup : tupI fe env S = (fe env S).bind tupIK := Eq.trans rfl rfl
@[simp] theorem i_tupK {ds : List D} : tupIK (.p (.tuple ds), S) = some (ds, [], S) := Eq.trans rfl rfl
def lstIK (x : T × Sto) : Option (List D × Gd × Sto) := match x.1 with
  | .ro xs => some (xs, [], x.2)
  | .loc n => match x.2[n]? with
    | some (.lst xs) => some (xs, [(n, .lst xs)], x.2)
    | _ => none
  | _ => none
@[simp] theorem i_lst : lstI fe env S = (fe env S).bind lstIK := Eq.trans rfl rfl
@[simp] theorem i_lstK {xs : List D} (h : S[i]? = some (.lst xs)) : lstIK (.loc i, S) = some (xs, [(i, .lst xs)], S) := by simp only [lstIK, h]
def rng1K (x : List T × Sto) : Option (List D × Gd × Sto) := match x.1 with
  | [.p (.int j)] => if small62 j = true then some (rangeL 0 j.toNat, [], x.2) else none
  | _ => none
@[simp] theorem i_rng1 : range1I fA env S = (fA env S).bind rng1K := Eq.trans rfl rfl
theorem i_rng1K (h : small62 k = true) : rng1K ([.p (.int k)], S) = some (rangeL 0 k.toNat, [], S) := by simp only [rng1K, h, if_true]
theorem small62_nat {c : Nat} (h : c ≤ 1000000) : small62 (c : Int) = true := by
  unfold small62
  rw [decide_eq_true (by omega), decide_eq_true (by omega)]; rfl
theorem i_rng1n {c : Nat} (h : c ≤ 1000000) : rng1K ([.p (.int (c : Int))], S) = some (rangeL 0 c, [], S) := by
  rw [i_rng1K (small62_nat h), Int.toNat_natCast]
theorem i_range1 {c : Nat} (h : fA env S = some ([.p (.int (c : Int))], S')) (hc : c ≤ 1000000) : range1I fA env S = some (rangeL 0 c, [], S') := by
  rw [i_rng1, h, Option.bind_some]
  exact i_rng1n hc
def keysK (x : T × Sto) : Option (List D × Gd × Sto) := (lckOf x.2 x.1).map fun q => (q.2.map fun z => dK z.1, [(q.1, .lck q.2)], x.2)
@[simp] theorem i_keys : keysI fe env S = (fe env S).bind keysK := Eq.trans rfl rfl
@[simp] theorem i_keysK {kvs : KD} (h : S[i]? = some (.lck kvs)) : keysK (.loc i, S) = some (kvs.map fun z => dK z.1, [(i, .lck kvs)], S) := by simp only [keysK, lckOf, h, Option.map_some]
def zipK (x : List T × Sto) : Option (List D × Gd × Sto) := match x.1 with
  | [a, b] => if isTupT a = isTupT b then (seqG x.2 a).bind fun u => (seqG x.2 b).map fun v => (zipD u.1 v.1, u.2 ++ v.2, x.2) else none
  | _ => none
@[simp] theorem i_zip : zipI fA env S = (fA env S).bind zipK := Eq.trans rfl rfl
@[simp] theorem i_zipP {xs ys : List D} : zipK ([.p (.tuple xs), .p (.tuple ys)], S) = some (zipD xs ys, [], S) := Eq.trans rfl rfl
@[simp] theorem i_zipL {xs ys : List D} (h : S[i]? = some (.lst xs)) (h2 : S[j]? = some (.lst ys)) : zipK ([.loc i, .loc j], S) = some (zipD xs ys, [(i, .lst xs), (j, .lst ys)], S) := by simp [zipK, isTupT, seqG, h, h2]
/-! targets -/
@[simp] theorem g_name : nameG i v env S = some (env.set i (some v), S) := Eq.trans rfl rfl
@[simp] theorem g_nil : nilG [] env S = some (env, S) := Eq.trans rfl rfl
def consGK (h : GFs) (xs : List T) (y : Env × Sto) : Option (Env × Sto) := h xs y.1 y.2
@[simp] theorem g_cons : consG gf gfs (v :: vs) env S = (gf v env S).bind (consGK gfs vs) := Eq.trans rfl rfl
@[simp] theorem g_consK : consGK gfs vs (env, S) = gfs vs env S := Eq.trans rfl rfl
@[simp] theorem g_tupP {ds : List D} (h : ds.length = n) : tupG n gfs (.p (.tuple ds)) env S = gfs (ds.map T.p) env S := by simp only [tupG, if_pos h]
@[simp] theorem g_tupM {ts : List T} (h : ts.length = n) : tupG n gfs (.mix ts) env S = gfs ts env S := by simp only [tupG, if_pos h]
/-! for -/
def forK2 (m : Nat) (z : Out × Env × Sto) : Out × Env × Sto := match z.1 with
  | .rt r => (.rt r, z.2.1, z.2.2)
  | o => (o, forget m z.2.1, z.2.2.take m)
noncomputable def forK1 (g : GF) (sb : SF) (n : Nat) (env : Env) (m : Nat) (it : List D × Gd × Sto) : Option (Out × Env × Sto) := (loopF g sb (gdTop n it.2.1) it.2.2.length it.2.1 it.1 env it.2.2).map (forK2 m)
@[simp] theorem s_for : forS itf gf sb n env S = (itf env S).bind (forK1 gf sb n env S.length) := Eq.trans rfl rfl
theorem s_for1 {xs : List D} {gd : Gd} : forK1 gf sb n env m (xs, gd, S) = (loopF gf sb (gdTop n gd) S.length gd xs env S).map (forK2 m) := Eq.trans rfl rfl
@[simp] theorem s_for2 : forK2 m (.nx, env, S) = (.nx, forget m env, S.take m) := Eq.trans rfl rfl
@[simp] theorem s_for2r : forK2 m (.rt v, env, S) = (.rt v, env, S) := Eq.trans rfl rfl
theorem s_for_run {xs : List D} {gd : Gd} {S1 : Sto} (hi : itf env S = some (xs, gd, S1)) (hm : S1.length = m) (hl : loopF gf sb (gdTop n gd) m gd xs env S1 = some (.nx, env', S')) : forS itf gf sb n env S = some (.nx, forget S.length env', S'.take S.length) := by
  subst hm
  rw [s_for, hi, Option.bind_some, s_for1, hl]; rfl
theorem s_for_runR {xs : List D} {gd : Gd} {S1 : Sto} (hi : itf env S = some (xs, gd, S1)) (hm : S1.length = m) (hl : loopF gf sb (gdTop n gd) m gd xs env S1 = some (.rt v, env', S')) : forS itf gf sb n env S = some (.rt v, env', S') := by
  subst hm
  rw [s_for, hi, Option.bind_some, s_for1, hl]; rfl
/-- a loop by a relation between what is counted and what stands in the slots and the store -/
theorem loop_rel {α : Type} {gd : Gd} (R : α → Env → Sto → Prop) (step : α → D → α) (hgd : ∀ a env S, R a env S → GdOk gd S) : ∀ (xs : List D) (a : α) (env : Env) (S : Sto), R a env S →
    (∀ a x env S, x ∈ xs → R a env S → ∃ env1 S1 env2 S2, gf (.p x) env S = some (env1, S1) ∧ sb n env1 S1 = some (.nx, env2, S2) ∧ R (step a x) (forget m env2) (S2.take m)) →
    ∃ env' S', loopF gf sb n m gd xs env S = some (.nx, env', S') ∧ R (xs.foldl step a) env' S'
  | [], a, env, S, r, _ => ⟨env, S, by simp only [loopF]; rw [if_pos (hgd _ _ _ r)], r⟩
  | x :: xs, a, env, S, r, h => by
    obtain ⟨env1, S1, env2, S2, e1, e2, r2⟩ := h a x env S List.mem_cons_self r
    obtain ⟨env', S', e3, r3⟩ := loop_rel R step hgd xs (step a x) _ _ r2 fun a y env S hy => h a y env S (List.mem_cons_of_mem _ hy)
    exact ⟨env', S', by simp only [loopF]; rw [if_pos (hgd _ _ _ r), e1, Option.bind_some, e2, Option.bind_some]; exact e3, r3⟩
theorem gd_nil {S : Sto} : GdOk [] S := fun p h => by simp at h
/-- .. with an invariant alone -/
theorem loop_inv {gd : Gd} (R : Nat → Env → Sto → Prop) (hgd : ∀ i env S, R i env S → GdOk gd S) : ∀ (xs : List D) (i : Nat) (env : Env) (S : Sto), R i env S →
    (∀ j x env S, xs[j]? = some x → R (i + j) env S → ∃ env1 S1 env2 S2, gf (.p x) env S = some (env1, S1) ∧ sb n env1 S1 = some (.nx, env2, S2) ∧ R (i + j + 1) (forget m env2) (S2.take m)) →
    ∃ env' S', loopF gf sb n m gd xs env S = some (.nx, env', S') ∧ R (i + xs.length) env' S'
  | [], a, env, S, r, _ => ⟨env, S, by simp only [loopF]; rw [if_pos (hgd _ _ _ r)], r⟩
  | x :: xs, i, env, S, r, h => by
    obtain ⟨env1, S1, env2, S2, e1, e2, r2⟩ := h 0 x env S rfl r
    obtain ⟨env', S', e3, r3⟩ := loop_inv R hgd xs (i + 1) _ _ r2 fun j y env S hy hr => by
      have := h (j + 1) y env S (by simpa using hy) (by rwa [show i + (j + 1) = i + 1 + j by omega])
      rwa [show i + (j + 1) + 1 = i + 1 + j + 1 by omega] at this
    exact ⟨env', S', by simp only [loopF]; rw [if_pos (hgd _ _ _ r), e1, Option.bind_some, e2, Option.bind_some]; exact e3, by rw [List.length_cons, show i + (xs.length + 1) = i + 1 + xs.length by omega]; exact r3⟩
/-! comprehensions -/
noncomputable def lcK (g : GF) (ft : TF) (fe : EF) (vs : List Nat) (env : Env) (it : List D × Gd × Sto) : Option (T × Sto) := (lcGo g ft fe (wipeE env vs) it.2.2.length it.2.1 it.1 [] it.2.2).map fun z => (.loc it.2.2.length, z.2 ++ [.lst z.1])
@[simp] theorem e_lc {vs : List Nat} : lcF itf gf ft fe vs env S = (itf env S).bind (lcK gf ft fe vs env) := Eq.trans rfl rfl
theorem e_lc1 {vs : List Nat} {xs : List D} {gd : Gd} {r : List D × Sto} (h : lcGo gf ft fe (wipeE env vs) S.length gd xs [] S = some r) : lcK gf ft fe vs env (xs, gd, S) = some (.loc S.length, r.2 ++ [.lst r.1]) := by
  show (lcGo gf ft fe (wipeE env vs) S.length gd xs [] S).map _ = _
  rw [h]; rfl
/-- a comprehension that changes nothing: what passes p, by f -/
theorem lc_pure {gd : Gd} (p : D → Bool) (f : D → D) (hm : S.length = m) (hgd : GdOk gd S) : ∀ (xs acc : List D), acc.length + xs.length ≤ 100000 →
    (∀ x acc, x ∈ xs → ∃ env1, gf (.p x) env (S ++ [.lst acc]) = some (env1, S ++ [.lst acc]) ∧ ft env1 (S ++ [.lst acc]) = some (p x, S ++ [.lst acc]) ∧ (p x = true → fe env1 (S ++ [.lst acc]) = some (.p (f x), S ++ [.lst acc]))) →
    lcGo gf ft fe env m gd xs acc S = some (acc ++ (xs.filter p).map f, S)
  | [], acc, _, _ => by simp only [lcGo]; rw [if_pos hgd]; simp
  | x :: xs, acc, hl, h => by
    obtain ⟨env1, e1, e2, e3⟩ := h x acc List.mem_cons_self
    have ih := fun acc' hl' => lc_pure (gd := gd) p f hm hgd xs acc' hl' fun y a hy => h y a (List.mem_cons_of_mem _ hy)
    simp only [List.length_cons] at hl
    have hsz : acc.length < sizeLine := by rw [sizeLine_eq]; omega
    simp only [lcGo]
    rw [if_pos hgd, e1, Option.bind_some, e2, Option.bind_some]
    cases hp : p x with
    | true =>
      simp only [if_true]
      rw [e3 hp, Option.bind_some]
      simp only
      rw [unsnoc_app hm, Option.bind_some]
      simp only
      rw [if_pos hsz, ih _ (by rw [List.length_append, List.length_singleton]; omega), List.filter_cons, hp, if_pos rfl, List.map_cons, List.append_assoc]
      rfl
    | false =>
      simp only [Bool.false_eq_true, if_false]
      rw [unsnoc_app hm, Option.bind_some]
      simp only
      rw [ih _ (by omega), List.filter_cons, hp, if_neg Bool.false_ne_true]
/-- a comprehension that changes the store below itself, without ifs -/
theorem lc_rel {gd : Gd} (R : List D → Sto → Prop) (hR : ∀ a S, R a S → S.length = m ∧ GdOk gd S) : ∀ (xs acc : List D) (S : Sto), acc.length + xs.length ≤ 100000 → R acc S →
    (∀ x acc S, x ∈ xs → R acc S → ∃ env1 y S', gf (.p x) env (S ++ [.lst acc]) = some (env1, S ++ [.lst acc]) ∧ ft env1 (S ++ [.lst acc]) = some (true, S ++ [.lst acc]) ∧ fe env1 (S ++ [.lst acc]) = some (.p y, S' ++ [.lst acc]) ∧ R (acc ++ [y]) S') →
    ∃ out S', lcGo gf ft fe env m gd xs acc S = some (out, S') ∧ R out S' ∧ out.length = acc.length + xs.length
  | [], acc, S, _, r, _ => ⟨acc, S, by simp only [lcGo]; rw [if_pos (hR _ _ r).2], r, by simp⟩
  | x :: xs, acc, S, hl, r, h => by
    obtain ⟨env1, y, S1, e1, e2, e3, r1⟩ := h x acc S List.mem_cons_self r
    simp only [List.length_cons] at hl
    have hsz : acc.length < sizeLine := by rw [sizeLine_eq]; omega
    obtain ⟨out, S', e4, r4, l4⟩ := lc_rel R hR xs (acc ++ [y]) S1 (by rw [List.length_append, List.length_singleton]; omega) r1 fun z a S hz => h z a S (List.mem_cons_of_mem _ hz)
    refine ⟨out, S', ?_, r4, by rw [l4, List.length_append, List.length_singleton, List.length_cons]; omega⟩
    simp only [lcGo]
    rw [if_pos (hR _ _ r).2, e1, Option.bind_some, e2, Option.bind_some]
    simp only [if_true]
    rw [e3, Option.bind_some]
    simp only
    rw [unsnoc_app (hR _ _ r1).1, Option.bind_some]
    simp only
    rw [if_pos hsz, e4]
@[simp] theorem e_yes : yesT env S = some (true, S) := Eq.trans rfl rfl
/-- a dict comprehension that changes nothing -/
theorem dc_pure {gd : Gd} (p : D → Bool) (fK : D → Key) (fV : D → D) (hm : S.length = m) (hgd : GdOk gd S) : ∀ (xs : List D) (acc : KD), acc.length + xs.length ≤ 100000 →
    (∀ x acc, x ∈ xs → ∃ env1, gf (.p x) env (S ++ [.dic acc]) = some (env1, S ++ [.dic acc]) ∧ ft env1 (S ++ [.dic acc]) = some (p x, S ++ [.dic acc]) ∧ (p x = true → fk env1 (S ++ [.dic acc]) = some (.p (dK (fK x)), S ++ [.dic acc]) ∧ fv env1 (S ++ [.dic acc]) = some (.p (fV x), S ++ [.dic acc]))) →
    dcGo gf ft fk fv env m gd xs acc S = some (((xs.filter p).map fun x => (fK x, fV x)).foldl (fun a kv => putD a kv.1 kv.2) acc, S)
  | [], acc, _, _ => by simp only [dcGo]; rw [if_pos hgd]; simp
  | x :: xs, acc, hl, h => by
    obtain ⟨env1, e1, e2, e3⟩ := h x acc List.mem_cons_self
    have ih := fun acc' hl' => dc_pure (gd := gd) p fK fV hm hgd xs acc' hl' fun y a hy => h y a (List.mem_cons_of_mem _ hy)
    simp only [List.length_cons] at hl
    have hsz : acc.length < sizeLine := by rw [sizeLine_eq]; omega
    simp only [dcGo]
    rw [if_pos hgd, e1, Option.bind_some, e2, Option.bind_some]
    cases hp : p x with
    | true =>
      simp only [if_true]
      rw [(e3 hp).1, Option.bind_some, (e3 hp).2, Option.bind_some]
      have hk : keyT (.p (dK (fK x))) = some (fK x) := by cases fK x <;> rfl
      have hlen : (putD acc (fK x) (fV x)).length ≤ acc.length + 1 := by
        unfold putD
        split
        · rw [List.length_map]; omega
        · rw [List.length_append]; simp
      simp only
      rw [hk, Option.bind_some, unsnocD_app hm, Option.bind_some]
      simp only
      rw [if_pos hsz, ih _ (by omega), List.filter_cons, hp, if_pos rfl, List.map_cons, List.foldl_cons]
    | false =>
      simp only [Bool.false_eq_true, if_false]
      rw [unsnocD_app hm, Option.bind_some]
      simp only
      rw [ih _ (by omega), List.filter_cons, hp, if_neg Bool.false_ne_true]
noncomputable def dcK (g : GF) (ft : TF) (fk fv : EF) (vs : List Nat) (env : Env) (it : List D × Gd × Sto) : Option (T × Sto) := (dcGo g ft fk fv (wipeE env vs) it.2.2.length it.2.1 it.1 [] it.2.2).map fun z => (.loc it.2.2.length, z.2 ++ [.dic z.1])
@[simp] theorem e_dc {vs : List Nat} : dcF itf gf ft fk fv vs env S = (itf env S).bind (dcK gf ft fk fv vs env) := Eq.trans rfl rfl
theorem e_dc1 {vs : List Nat} {xs : List D} {gd : Gd} {r : KD × Sto} (h : dcGo gf ft fk fv (wipeE env vs) S.length gd xs [] S = some r) : dcK gf ft fk fv vs env (xs, gd, S) = some (.loc S.length, r.2 ++ [.dic r.1]) := by
  show (dcGo gf ft fk fv (wipeE env vs) S.length gd xs [] S).map _ = _
  rw [h]; rfl
/-! dicts -/
@[simp] theorem e_dnew : dnewF env S = some (.loc S.length, S ++ [.dic []]) := Eq.trans rfl rfl
def dgetK1 (x : T) (y : T × Sto) : Option (T × Sto) := (dictOf y.2 x).bind fun kvs => (keyT y.1).bind fun k => (valD kvs k).map fun d => (.p d, y.2)
def dgetK0 (fi : EF) (env : Env) (x : T × Sto) : Option (T × Sto) := (fi env x.2).bind (dgetK1 x.1)
@[simp] theorem e_dget : dgetF fd fi env S = (fd env S).bind (dgetK0 fi env) := Eq.trans rfl rfl
@[simp] theorem e_dget0 : dgetK0 fi env (v, S) = (fi env S).bind (dgetK1 v) := Eq.trans rfl rfl
theorem e_dget1 {kvs : KD} {q : Key} (h : dictOf S (.loc i) = some kvs) (h2 : keyOf d = some q) : dgetK1 (.loc i) (.p d, S) = (valD kvs q).map fun d => (.p d, S) := by simp only [dgetK1, h, Option.bind_some, keyT, h2]
def dgetxK2 (x y : T) (z : T × Sto) : Option (T × Sto) := (dictOf z.2 x).bind fun kvs => (keyT y).map fun k => match valD kvs k with
  | some d => (.p d, z.2)
  | none => (z.1, z.2)
def dgetxK1 (fx : EF) (env : Env) (x : T) (y : T × Sto) : Option (T × Sto) := (fx env y.2).bind (dgetxK2 x y.1)
def dgetxK0 (fi fx : EF) (env : Env) (x : T × Sto) : Option (T × Sto) := (dictOf x.2 x.1).bind fun _ => (fi env x.2).bind (dgetxK1 fx env x.1)
@[simp] theorem e_dgetx : dgetxF fd fi fx env S = (fd env S).bind (dgetxK0 fi fx env) := Eq.trans rfl rfl
theorem e_dgetx0 {kvs : KD} (h : dictOf S (.loc i) = some kvs) : dgetxK0 fi fx env (.loc i, S) = (fi env S).bind (dgetxK1 fx env (.loc i)) := by simp only [dgetxK0, h, Option.bind_some]
@[simp] theorem e_dgetx1 : dgetxK1 fx env v (w, S) = (fx env S).bind (dgetxK2 v w) := Eq.trans rfl rfl
theorem e_dgetx2 {kvs : KD} {q : Key} (h : dictOf S (.loc i) = some kvs) (h2 : keyOf d = some q) : dgetxK2 (.loc i) (.p d) (v, S) = some (match valD kvs q with | some e => (.p e, S) | none => (v, S)) := by simp only [dgetxK2, h, Option.bind_some, keyT, h2, Option.map_some]
def dinK1 (neg : Bool) (y : T) (x : T × Sto) : Option (T × Sto) := (dictOf x.2 x.1).bind fun kvs => (keyT y).map fun k => (.p (.bool (if neg then !(valD kvs k).isSome else (valD kvs k).isSome)), x.2)
def dinK0 (neg : Bool) (fd : EF) (env : Env) (y : T × Sto) : Option (T × Sto) := (fd env y.2).bind (dinK1 neg y.1)
@[simp] theorem e_din : dinF b fi fd env S = (fi env S).bind (dinK0 b fd env) := Eq.trans rfl rfl
@[simp] theorem e_din0 : dinK0 b fd env (v, S) = (fd env S).bind (dinK1 b v) := Eq.trans rfl rfl
theorem e_din1 {kvs : KD} {q : Key} (h : dictOf S (.loc i) = some kvs) (h2 : keyOf d = some q) : dinK1 b (.p d) (.loc i, S) = some (.p (.bool (if b then !(valD kvs q).isSome else (valD kvs q).isSome)), S) := by simp only [dinK1, h, Option.bind_some, keyT, h2, Option.map_some]
theorem dictOf_dic {kvs : KD} (h : S[i]? = some (.dic kvs)) : dictOf S (.loc i) = some kvs := by simp only [dictOf, h]
theorem dictOf_lck {kvs : KD} (h : S[i]? = some (.lck kvs)) : dictOf S (.loc i) = some kvs := by simp only [dictOf, h]
def dputK2 (env : Env) (M : Nat) (v o : T) (i : T × Sto) : Option (Out × Env × Sto) := match v, o with
  | .p d, .loc n => match i.2[n]? with
    | some (.dic kvs) => (keyT i.1).bind fun k => if kvs.length < sizeLine then some (.nx, env, (i.2.set n (.dic (putD kvs k d))).take M) else none
    | _ => none
  | _, _ => none
def dputK1 (fi : EF) (env : Env) (M : Nat) (v : T) (o : T × Sto) : Option (Out × Env × Sto) := (fi env o.2).bind (dputK2 env M v o.1)
def dputK0 (fd fi : EF) (env : Env) (M : Nat) (v : T × Sto) : Option (Out × Env × Sto) := (fd env v.2).bind (dputK1 fi env M v.1)
@[simp] theorem s_dput : dputS fd fi fv n env S = (fv env S).bind (dputK0 fd fi env S.length) := Eq.trans rfl rfl
@[simp] theorem s_dput0 : dputK0 fd fi env M (v, S) = (fd env S).bind (dputK1 fi env M v) := Eq.trans rfl rfl
@[simp] theorem s_dput1 : dputK1 fi env M v (w, S) = (fi env S).bind (dputK2 env M v w) := Eq.trans rfl rfl
theorem s_dput2 {kvs : KD} {q : Key} {d' : D} (h : S[i]? = some (.dic kvs)) (h2 : keyOf d' = some q) (h3 : kvs.length < sizeLine) : dputK2 env M (.p d) (.loc i) (.p d', S) = some (.nx, env, (S.set i (.dic (putD kvs q d))).take M) := by simp only [dputK2, h, keyT, h2, Option.bind_some, if_pos h3]
theorem e_lock {kvs : KD} {r : T × Sto} (h : env[i]? = some (some (.loc j))) (h2 : S[j]? = some (.dic kvs)) (h3 : f env (S.set j (.lck kvs)) = some r) (h4 : r.2[j]? = some (.lck kvs)) : lockF i f env S = some (r.1, r.2.set j (.dic kvs)) := by simp only [lockF, h, h2, h3, Option.bind_some, h4]
theorem seq_go {r : Option (Out × Env × Sto)} (h1 : s1 n env S = some (.nx, env', S')) (h2 : s2 n env' S' = r) : seqS s1 s2 n env S = r := by
  rw [s_seq, h1, Option.bind_some, s_seqN]; exact h2
theorem seq_rt (h1 : s1 n env S = some (.rt v, env', S')) : seqS s1 s2 n env S = some (.rt v, env', S') := by
  rw [s_seq, h1, Option.bind_some, s_seqR]
theorem ret_go (h : fa env S = some (v, S')) : retS fa n env S = some (.rt v, env, S') := by rw [s_ret, h]; rfl
theorem if_go1 {r : Option (Out × Env × Sto)} (h : t env S = some (true, S')) (h2 : s1 n env (S'.take S.length) = r) : ifS t s1 s2 n env S = r := by rw [s_if, h, Option.bind_some, s_if1 rfl]; exact h2
theorem if_go0 {r : Option (Out × Env × Sto)} (h : t env S = some (false, S')) (h2 : s2 n env (S'.take S.length) = r) : ifS t s1 s2 n env S = r := by rw [s_if, h, Option.bind_some, s_if0 rfl]; exact h2
/-! aug, par -/
def parK (i j : Nat) (env : Env) (m : Nat) (x : List T × Sto) : Option (Out × Env × Sto) := match x.1 with
  | [a, b] => (gcTs m x.2.length [a, b] []).bind fun y => match y.1 with
    | [a', b'] => some (.nx, (env.set i (some a')).set j (some b'), gcOb m x.2 y.2)
    | _ => none
  | _ => none
@[simp] theorem s_par : parS i j fA n env S = (fA env S).bind (parK i j env S.length) := Eq.trans rfl rfl
@[simp] theorem s_parP {d e : D} : parK i j env m ([.p d, .p e], S) = some (.nx, (env.set i (some (.p d))).set j (some (.p e)), S.take m) := by simp [parK, gcTs, gcT, gcOb]
@[simp] theorem s_parLL {o o' : O} (h : S.length = m) : parK i j env m ([.loc m, .loc (m + 1)], S ++ [o, o']) = some (.nx, (env.set i (some (.loc m))).set j (some (.loc (m + 1))), S ++ [o, o']) := by
  subst h
  have h1 : ¬ (S.length + 1 < S.length) := by omega
  simp [parK, gcTs, gcT, gcOb, h1]
@[simp] theorem s_parMM {xs ys : List T} (h : belows m xs = true) (h' : belows m ys = true) : parK i j env m ([.mix xs, .mix ys], S) = some (.nx, (env.set i (some (.mix xs))).set j (some (.mix ys)), S.take m) := by simp [parK, gcTs, gcT, gcOb, h, h']
end
end Pv
set_option maxHeartbeats 4000000
/-! Pv17: runs told by what holds behind them; == of equal data. -/
namespace Pv
open PySem PySem.Spec PyProof.Rows L2
section
variable {fa : EF} {t : TF} {env env' : Env} {S S' : Sto} {v w : T} {n i j m M : Nat} {d : D} {s1 s2 sb : SF} {Q : Out → Env → Sto → Prop}
/-- a statement runs, and then Q -/
def Rn (x : Option (Out × Env × Sto)) (Q : Out → Env → Sto → Prop) : Prop := ∃ o e s, x = some (o, e, s) ∧ Q o e s
theorem rn_seq (h1 : s1 n env S = some (.nx, env', S')) (h2 : Rn (s2 n env' S') Q) : Rn (seqS s1 s2 n env S) Q := by
  obtain ⟨o, e, s, h, q⟩ := h2
  exact ⟨o, e, s, seq_go h1 h, q⟩
theorem rn_seqQ {P : Env → Sto → Prop} (h1 : Rn (s1 n env S) fun o e s => o = .nx ∧ P e s) (h2 : ∀ env' S', P env' S' → Rn (s2 n env' S') Q) : Rn (seqS s1 s2 n env S) Q := by
  obtain ⟨o, e, s, h, rfl, p⟩ := h1
  exact rn_seq h (h2 _ _ p)
theorem rn_nx (h : s1 n env S = some (.nx, env', S')) (q : Q .nx env' S') : Rn (s1 n env S) Q := ⟨_, _, _, h, q⟩
theorem rn_ret (h : fa env S = some (v, S')) (q : Q (.rt v) env S') : Rn (retS fa n env S) Q := ⟨_, _, _, ret_go h, q⟩
theorem rn_if1 (h : t env S = some (true, S')) (h2 : Rn (s1 n env (S'.take S.length)) Q) : Rn (ifS t s1 s2 n env S) Q := by
  obtain ⟨o, e, s, g, q⟩ := h2
  exact ⟨o, e, s, if_go1 h g, q⟩
theorem rn_if0 (h : t env S = some (false, S')) (h2 : Rn (s2 n env (S'.take S.length)) Q) : Rn (ifS t s1 s2 n env S) Q := by
  obtain ⟨o, e, s, g, q⟩ := h2
  exact ⟨o, e, s, if_go0 h g, q⟩
theorem if_nx {r : Option (Out × Env × Sto)} (h : t env S = some (false, S')) (hr : some (.nx, env, S'.take S.length) = r) : ifS t s1 nextS n env S = r := if_go0 h hr
theorem m_rn {n : Nat} {b : SF} {ts : List T} {P : T × Sto → Prop} (h : Rn (b S.length (ts.map some ++ List.replicate (n - ts.length) none) S) fun o e s => ∃ r x, o = .rt r ∧ gcV S.length r s = some x ∧ P x) : ∃ x, defF n b ts S = some x ∧ P x := by
  obtain ⟨o, e, s, h, r, x, rfl, g, p⟩ := h
  exact ⟨x, m_ret h g, p⟩
end
/-! == of equal data -/
def Dk (k : Nat) (d : D) : Prop := d.canLay0 = true ∧ d.depth ≤ k
theorem dk_int {k : Nat} (i : Int) : Dk k (.int i) := ⟨by simp [PyData.canLay0], by simp [PyData.depth]⟩
theorem dk_none {k : Nat} : Dk k .none := ⟨by simp [PyData.canLay0], by simp [PyData.depth]⟩
theorem dk_bool {k : Nat} (b : Bool) : Dk k (.bool b) := ⟨by simp [PyData.canLay0], by simp [PyData.depth]⟩
theorem dk_all {k : Nat} : ∀ {xs : List D}, (∀ x ∈ xs, Dk k x) → PyData.canLayAll0 xs = true ∧ PyData.depthAll xs ≤ k
  | [], _ => ⟨by simp [PyData.canLayAll0], by simp [PyData.depthAll]⟩
  | x :: xs, h => by
    have h1 := h x List.mem_cons_self
    have h2 := dk_all fun y hy => h y (List.mem_cons_of_mem _ hy)
    refine ⟨by simp [PyData.canLayAll0, h1.1, h2.1], ?_⟩
    have := h1.2
    have := h2.2
    simp only [PyData.depthAll]
    omega
theorem dk_tup {k : Nat} {xs : List D} (h : ∀ x ∈ xs, Dk k x) : Dk (k + 1) (.tuple xs) := by
  have := dk_all h
  exact ⟨by simp [PyData.canLay0, this.1], by simp [PyData.depth]; exact this.2⟩
theorem dk_lst {k : Nat} {xs : List D} (h : ∀ x ∈ xs, Dk k x) : Dk (k + 1) (.list xs) := by
  have := dk_all h
  exact ⟨by simp [PyData.canLay0, this.1], by simp [PyData.depth]; exact this.2⟩
theorem dk_ints {k : Nat} (ns : List Int) : Dk (k + 1) (.tuple (ns.map PyData.int)) := dk_tup fun x hx => by
  obtain ⟨n, _, rfl⟩ := List.mem_map.mp hx; exact dk_int n
theorem dk_lints {k : Nat} (ns : List Int) : Dk (k + 1) (.list (ns.map PyData.int)) := dk_lst fun x hx => by
  obtain ⟨n, _, rfl⟩ := List.mem_map.mp hx; exact dk_int n
theorem dk_pair {k : Nat} {a b : D} (ha : Dk k a) (hb : Dk k b) : Dk (k + 1) (.tuple [a, b]) := dk_tup fun x hx => by
  simp at hx
  rcases hx with rfl | rfl
  · exact ha
  · exact hb
theorem dk_pairI {k : Nat} (p : Int × Int) : Dk (k + 1) (pairI p) := dk_pair (dk_int _) (dk_int _)
theorem dk_rows {k : Nat} (L : List (Int × Int)) : Dk (k + 2) (.tuple (L.map pairI)) := dk_tup fun x hx => by
  obtain ⟨n, _, rfl⟩ := List.mem_map.mp hx; exact dk_pairI n
theorem deep_of {d : D} (h : Dk 60 d) : deep d = true := by
  show (d.canLay0 && decide (d.depth ≤ 64)) = true
  rw [h.1, decide_eq_true (by have := h.2; omega)]; rfl
theorem eq_same {b : Bool} {x y : T} {S : Sto} {d : D} (h1 : datOf S x = some d) (h2 : datOf S y = some d) (h3 : Dk 60 d) : eqT b x y S = some (.p (.bool (!b)), S) := by
  rw [e_eq h1 h2 (deep_of h3) (deep_of h3), PySem.SeqAt.eqv_refl d h3.1]
  cases b <;> rfl
@[simp] theorem eqv_int (a b : Int) : PyData.eqv (.int a) (.int b) = decide (a = b) := by
  unfold PyData.eqv
  by_cases h : a = b
  · subst h; simp
  · simp [h]
@[simp] theorem e_eqI {b : Bool} {x y : Int} {S : Sto} : eqT b (.p (.int x)) (.p (.int y)) S = some (.p (.bool (if b then !decide (x = y) else decide (x = y))), S) := by
  rw [e_eq rfl rfl (deep_of (dk_int x)) (deep_of (dk_int y)), eqv_int]
end Pv
set_option maxHeartbeats 4000000
/-! M66: what the functions of k66 do, as functions of values and a store. -/
namespace G66
open PySem PySem.Spec PyProof.Rows L2 Pv
noncomputable def b__law_cells : SF :=
  (retS (lrg1F (argF max2T (consF (conF (.int 1)) (consF (argF min2T (consF (varF 1) (consF (argF lenT (consF (varF 0) nilF)) nilF))) nilF)))))
/-- _law_cells: slots 0=script 1=most -/
noncomputable def m__law_cells : DF := defF 2 b__law_cells
noncomputable def b__law_pot : SF :=
  (seqS (setS 2 (ifF (asT (binF ltI (varF 1) (argF lenT (consF (varF 0) nilF)))) (binF ixT (varF 0) (varF 1)) (binF addT (binF addT (binF modI (argF intT (consF (argF sumT (consF (sliceF (varF 0) noO (someO (conF (.int 1)))) nilF)) nilF)) (conF (.int 1000291))) (binF mulI (conF (.int 7351)) (varF 1))) (conF (.int 4153))))) (seqS (setS 3 (binF mulI (binF modI (argF intT (consF (argF absT (consF (varF 2) nilF)) nilF)) (binF powA (binF powA (conF (.int 10)) (conF (.int 60))) (conF (.int 5)))) (argF intT (consF (binF geI (argF absT (consF (varF 2) nilF)) (binF powA (conF (.int 10)) (conF (.int 18)))) nilF)))) (seqS (setS 4 (binF modI (argF intT (consF (varF 2) nilF)) (conF (.int 2305843009213693951)))) (retS (lstF (consF (varF 3) (consF (binF modI (argF intT (consF (binF addT (binF addT (binF mulI (varF 4) (conF (.int 83383))) (binF mulI (binF mulI (conF (.int 12301)) (varF 1)) (varF 1))) (conF (.int 3571))) nilF)) (conF (.int 2305843009213693921))) (consF (conF (.int 0)) nilF))))))))
/-- _law_pot: slots 0=script 1=place 2=cell 3=own 4=small -/
noncomputable def m__law_pot : DF := defF 5 b__law_pot
noncomputable def b_is_int : SF :=
  (retS (andF (isiF "int" (varF 0)) (andF (notF (isiF "bool" (varF 0))) (chainF leI leI (varF 1) (varF 0) (varF 2)))))
/-- is_int: slots 0=value 1=low 2=high -/
noncomputable def m_is_int : DF := defF 3 b_is_int
noncomputable def b_look_at_many : SF :=
  (ifS (notT (asT (callF 3 m_is_int (consF (varF 0) (consF (conF (.int 1)) (consF (conF (.int 20)) nilF)))))) noneS nextS)
/-- look_at_many: slots 0=many -/
noncomputable def m_look_at_many : DF := defF 1 b_look_at_many
noncomputable def b_are_counters : SF :=
  (seqS (ifS (orT (notT (asT (isiF "tuple" (varF 0)))) (asT (binF gtI (argF lenT (consF (varF 0) nilF)) (conF (.int 20))))) (retS (conF (.bool false))) nextS) (seqS (forS (tupI (varF 0)) (nameG 1) (seqS (ifS (orT (notT (asT (isiF "tuple" (varF 1)))) (asT (binF (eqT true) (argF lenT (consF (varF 1) nilF)) (conF (.int 2))))) (retS (conF (.bool false))) nextS) (ifS (orT (notT (asT (callF 3 m_is_int (consF (binF ixT (varF 1) (conF (.int 0))) (consF (conF (.int 0)) (consF (conF (.int 1000)) nilF)))))) (notT (asT (callF 3 m_is_int (consF (binF ixT (varF 1) (conF (.int 1))) (consF (conF (.int 1)) (consF (conF (.int 1000000)) nilF))))))) (retS (conF (.bool false))) nextS))) (retS (argF (allT false) (consF (lcF (zipI (consF (varF 0) (consF (sliceF (varF 0) (someO (conF (.int 1))) noO) nilF))) (tupG 2 (consG (nameG 2) (consG (nameG 3) nilG))) yesT (binF ltI (binF ixT (varF 2) (conF (.int 0))) (binF ixT (varF 3) (conF (.int 0)))) [2, 3]) nilF)))))
/-- are_counters: slots 0=value 1=row 2=one 3=other -/
noncomputable def m_are_counters : DF := defF 4 b_are_counters
noncomputable def b_merged : SF :=
  (seqS (exprS (callF 1 m_look_at_many (consF (varF 0) nilF))) (seqS (forS (tupI (tupF (consF (varF 1) (consF (varF 2) nilF)))) (nameG 3) (ifS (orT (notT (asT (callF 1 m_are_counters (consF (varF 3) nilF)))) (asT (binF gtI (argF lenT (consF (varF 3) nilF)) (varF 0)))) noneS nextS)) (seqS (setS 4 (argF dictFT (consF (rawF 1) nilF))) (seqS (forS (tupI (varF 2)) (tupG 2 (consG (nameG 5) (consG (nameG 6) nilG))) (dputS (varF 4) (varF 5) (binF addT (dgetxF (varF 4) (varF 5) (conF (.int 0))) (varF 6)))) (seqS (setS 7 (revF (sortedVF (varF 4)))) (seqS (setS 8 (ifF (asT (binF gtI (argF lenT (consF (varF 7) nilF)) (varF 0))) (binF ixT (varF 7) (varF 0)) (conF (.int 0)))) (retS (tupF (consF (argF tupleT (consF (argF sortedT (consF (lockF 4 (lcF (keysI (varF 4)) (nameG 5) (asT (binF gtI (dgetF (varF 4) (varF 5)) (varF 8))) (tupF (consF (varF 5) (consF (binF subI (dgetF (varF 4) (varF 5)) (varF 8)) nilF))) [5])) nilF)) nilF)) (consF (varF 8) nilF))))))))))
/-- merged: slots 0=many 1=one 2=other 3=some 4=found 5=flow 6=count 7=counts 8=less -/
noncomputable def m_merged : DF := defF 9 b_merged
noncomputable def b_are_flows : SF :=
  (retS (andF (isiF "tuple" (varF 0)) (andF (binF leI (argF lenT (consF (varF 0) nilF)) (conF (.int 500))) (argF (allT false) (consF (lcF (tupI (varF 0)) (nameG 1) yesT (callF 3 m_is_int (consF (varF 1) (consF (conF (.int 0)) (consF (conF (.int 1000)) nilF)))) [1]) nilF)))))
/-- are_flows: slots 0=value 1=one -/
noncomputable def m_are_flows : DF := defF 2 b_are_flows
noncomputable def b_look_at_flows : SF :=
  (ifS (notT (asT (callF 1 m_are_flows (consF (varF 0) nilF)))) noneS nextS)
/-- look_at_flows: slots 0=flows -/
noncomputable def m_look_at_flows : DF := defF 1 b_look_at_flows
noncomputable def b_told_counters : SF :=
  (seqS (asgS (tupF (consF dnewF (consF (conF (.int 0)) nilF))) (tupG 2 (consG (nameG 2) (consG (nameG 3) nilG)))) (seqS (forS (tupI (varF 1)) (nameG 4) (ifS (orT (asT (dinF false (varF 4) (varF 2))) (asT (binF ltI (argF lenT (consF (varF 2) nilF)) (varF 0)))) (dputS (varF 2) (varF 4) (binF addT (dgetxF (varF 2) (varF 4) (conF (.int 0))) (conF (.int 1)))) (seqS (setS 2 (lockF 2 (dcF (keysI (varF 2)) (nameG 5) (asT (binF gtI (dgetF (varF 2) (varF 5)) (conF (.int 1)))) (varF 5) (binF subI (dgetF (varF 2) (varF 5)) (conF (.int 1))) [5]))) (augS 3 (iop fun i j => some (.int (i + j))) (conF (.int 1)))))) (retS (tupF (consF (varF 2) (consF (varF 3) nilF))))))
/-- told_counters: slots 0=many 1=flows 2=found 3=lessened 4=flow 5=one -/
noncomputable def m_told_counters : DF := defF 6 b_told_counters
noncomputable def b_counters : SF :=
  (seqS (exprS (callF 1 m_look_at_many (consF (varF 0) nilF))) (seqS (exprS (callF 1 m_look_at_flows (consF (varF 1) nilF))) (seqS (asgS (callF 2 m_told_counters (consF (varF 0) (consF (varF 1) nilF))) (tupG 2 (consG (nameG 2) (consG (nameG 3) nilG)))) (retS (tupF (consF (argF tupleFT (consF (sortedIF (varF 2)) nilF)) (consF (rawF 3) nilF)))))))
/-- counters: slots 0=many 1=flows 2=found 3=lessened -/
noncomputable def m_counters : DF := defF 4 b_counters
noncomputable def b__law_take : SF :=
  (seqS (ifS (asT (binF gtI (binF ixT (varF 0) (conF (.int 0))) (conF (.int 0)))) (seqS (setS 2 (binF modI (argF intT (consF (binF ixT (varF 0) (conF (.int 0))) nilF)) (varF 1))) (seqS (setLS (varF 0) (conF (.int 0)) (binF divI (binF ixT (varF 0) (conF (.int 0))) (varF 1))) (retS (varF 2)))) nextS) (seqS (setLS (varF 0) (conF (.int 2)) (binF addT (binF ixT (varF 0) (conF (.int 2))) (conF (.int 1)))) (seqS (setS 3 (binF ixT (lstF (consF (conF (.int 2147483647)) (consF (conF (.int 2147483629)) (consF (conF (.int 2147483587)) (consF (conF (.int 2147483579)) (consF (conF (.int 2147483563)) nilF)))))) (binF modI (argF intT (consF (binF ixT (varF 0) (conF (.int 2))) nilF)) (conF (.int 5))))) (seqS (setS 4 (binF modI (argF intT (consF (binF powA (argF intT (consF (binF addT (binF addT (binF ixT (varF 0) (conF (.int 1))) (binF mulI (binF mulI (conF (.int 93257)) (binF ixT (varF 0) (conF (.int 2)))) (binF ixT (varF 0) (conF (.int 2))))) (conF (.int 4153))) nilF)) (conF (.int 3))) nilF)) (varF 3))) (seqS (setS 4 (binF modI (argF intT (consF (binF mulI (varF 4) (binF addT (binF modI (argF intT (consF (varF 4) nilF)) (conF (.int 12923))) (binF mulI (conF (.int 439)) (binF ixT (varF 0) (conF (.int 2)))))) nilF)) (conF (.int 2305843009213693907)))) (retS (binF modI (argF intT (consF (binF divI (varF 4) (conF (.int 251))) nilF)) (varF 1))))))))
/-- _law_take: slots 0=pot 1=upto 2=digit 3=prime 4=mixture -/
noncomputable def m__law_take : DF := defF 5 b__law_take
noncomputable def b__law_some : SF :=
  (seqS (parS 3 4 (consF (argF listT (consF (varF 1) nilF)) (consF (lstF nilF) nilF))) (seqS (forS (range1I (consF (varF 2) nilF)) (nameG 5) (exprS (methF appendT (varF 4) (consF (methF popAtT (varF 3) (consF (callF 2 m__law_take (consF (varF 0) (consF (argF lenT (consF (varF 3) nilF)) nilF))) nilF)) nilF)))) (retS (varF 4))))
/-- _law_some: slots 0=pot 1=pool 2=many 3=rests 4=found 5=lap -/
noncomputable def m__law_some : DF := defF 6 b__law_some
noncomputable def b__law_go : SF :=
  (seqS (asgS (tupF (consF dnewF (consF (conF (.int 0)) nilF))) (tupG 2 (consG (nameG 2) (consG (nameG 3) nilG)))) (seqS (forS (tupI (varF 1)) (nameG 4) (ifS (orT (asT (dinF false (varF 4) (varF 2))) (asT (binF ltI (argF lenT (consF (varF 2) nilF)) (varF 0)))) (dputS (varF 2) (varF 4) (binF addT (dgetxF (varF 2) (varF 4) (conF (.int 0))) (conF (.int 1)))) (seqS (setS 3 (binF addT (varF 3) (conF (.int 1)))) (setS 2 (argF dictT (consF (lockF 2 (lcF (keysI (varF 2)) (nameG 5) (asT (binF gtI (dgetF (varF 2) (varF 5)) (conF (.int 1)))) (tupF (consF (varF 5) (consF (binF subI (dgetF (varF 2) (varF 5)) (conF (.int 1))) nilF))) [5])) nilF)))))) (retS (tupF (consF (argF tupleT (consF (argF sortedT (consF (lockF 2 (lcF (keysI (varF 2)) (nameG 5) yesT (tupF (consF (varF 5) (consF (dgetF (varF 2) (varF 5)) nilF))) [5])) nilF)) nilF)) (consF (varF 3) nilF))))))
/-- _law_go: slots 0=many 1=flows 2=counts 3=lessened 4=flow 5=one -/
noncomputable def m__law_go : DF := defF 6 b__law_go
noncomputable def b__law_of : SF :=
  (retS (binF ixT (varF 1) (callF 2 m__law_take (consF (varF 0) (consF (argF lenT (consF (varF 1) nilF)) nilF)))))
/-- _law_of: slots 0=pot 1=some -/
noncomputable def m__law_of : DF := defF 2 b__law_of
noncomputable def b__law_are_lots_right : SF :=
  (seqS (setS 2 (binF addT (conF (.int 1)) (argF intT (consF (callF 2 m__law_take (consF (varF 0) (consF (callF 2 m__law_of (consF (varF 0) (consF (lstF (consF (conF (.int 4)) (consF (conF (.int 30)) nilF))) nilF))) nilF))) nilF)))) (seqS (setS 3 (argF tupleFT (consF (lcF (range1I (consF (callF 2 m__law_take (consF (varF 0) (consF (conF (.int 150)) nilF))) nilF)) (nameG 20) yesT (argF intT (consF (callF 2 m__law_take (consF (varF 0) (consF (varF 2) nilF))) nilF)) [20]) nilF))) (seqS (setS 4 (lcF (lstI (callF 3 m__law_some (consF (varF 0) (consF (lrg1F (conF (.int 1001))) (consF (varF 2) nilF))))) (nameG 14) yesT (argF intT (consF (varF 14) nilF)) [14])) (seqS (setS 5 (argF tupleT (consF (lcF (tupI (varF 3)) (nameG 14) yesT (binF ixT (varF 4) (varF 14)) [14]) nilF))) (seqS (parS 6 7 (consF (callF 2 m_counters (consF (varF 1) (consF (varF 3) nilF))) (consF (callF 2 m_counters (consF (varF 1) (consF (varF 5) nilF))) nilF))) (seqS (ifS (orT (asT (binF (eqT true) (varF 6) (callF 2 m__law_go (consF (varF 1) (consF (varF 3) nilF))))) (asT (binF (eqT true) (varF 7) (tupF (consF (argF tupleT (consF (argF sortedT (consF (lcF (tupI (binF ixT (varF 6) (conF (.int 0)))) (tupG 2 (consG (nameG 14) (consG (nameG 15) nilG))) yesT (tupF (consF (binF ixT (varF 4) (varF 14)) (consF (varF 15) nilF))) [14, 15]) nilF)) nilF)) (consF (binF ixT (varF 6) (conF (.int 1))) nilF)))))) (retS (conF (.bool false))) nextS) (seqS (setS 8 (argF intT (consF (callF 2 m__law_take (consF (varF 0) (consF (binF addT (argF lenT (consF (varF 3) nilF)) (conF (.int 1))) nilF))) nilF))) (seqS (parS 9 10 (consF (callF 2 m_counters (consF (varF 1) (consF (sliceF (varF 3) noO (someO (varF 8))) nilF))) (consF (callF 2 m_counters (consF (varF 1) (consF (sliceF (varF 3) (someO (varF 8)) noO) nilF))) nilF))) (seqS (asgS (callF 3 m_merged (consF (rawF 1) (consF (binF ixT (rawF 9) (conF (.int 0))) (consF (binF ixT (rawF 10) (conF (.int 0))) nilF)))) (tupG 2 (consG (nameG 11) (consG (nameG 12) nilG)))) (seqS (ifS (orT (asT (binF (eqT true) (callF 3 m_merged (consF (rawF 1) (consF (binF ixT (rawF 10) (conF (.int 0))) (consF (binF ixT (rawF 9) (conF (.int 0))) nilF)))) (tupF (consF (varF 11) (consF (varF 12) nilF))))) (asT (binF (eqT true) (callF 3 m_merged (consF (rawF 1) (consF (binF ixT (rawF 9) (conF (.int 0))) (consF (tupF nilF) nilF)))) (tupF (consF (binF ixT (varF 9) (conF (.int 0))) (consF (conF (.int 0)) nilF)))))) (retS (conF (.bool false))) nextS) (seqS (setS 13 (argF dictT (consF (argF listT (consF (binF ixT (varF 9) (conF (.int 0))) nilF)) nilF))) (seqS (forS (tupI (binF ixT (varF 10) (conF (.int 0)))) (tupG 2 (consG (nameG 14) (consG (nameG 15) nilG))) (dputS (varF 13) (varF 14) (binF addT (dgetxF (varF 13) (varF 14) (conF (.int 0))) (varF 15)))) (seqS (setS 16 (revF (argF sortedT (consF (lockF 13 (lcF (keysI (varF 13)) (nameG 14) yesT (dgetF (varF 13) (varF 14)) [14])) nilF)))) (seqS (setS 17 (ifF (asT (binF gtI (argF lenT (consF (varF 16) nilF)) (varF 1))) (binF ixT (varF 16) (varF 1)) (conF (.int 0)))) (seqS (ifS (orT (asT (binF (eqT true) (varF 12) (varF 17))) (asT (binF (eqT true) (varF 11) (argF tupleT (consF (argF sortedT (consF (lockF 13 (lcF (keysI (varF 13)) (nameG 14) (asT (binF gtI (dgetF (varF 13) (varF 14)) (varF 12))) (tupF (consF (varF 14) (consF (binF subI (dgetF (varF 13) (varF 14)) (varF 12)) nilF))) [14])) nilF)) nilF))))) (retS (conF (.bool false))) nextS) (seqS (setS 18 (binF addT (binF addT (binF ixT (varF 9) (conF (.int 1))) (binF ixT (varF 10) (conF (.int 1)))) (varF 12))) (seqS (ifS (orT (asT (binF gtI (binF mulI (varF 18) (binF addT (varF 1) (conF (.int 1)))) (argF lenT (consF (varF 3) nilF)))) (asT (binF gtI (argF lenT (consF (varF 11) nilF)) (varF 1)))) (retS (conF (.bool false))) nextS) (seqS (setS 19 (argF dictT (consF (argF listT (consF (varF 11) nilF)) nilF))) (retS (argF (allT false) (consF (lcF (range1I (consF (varF 2) nilF)) (nameG 14) yesT (chainF leI leI (binF subI (cntF 3 (varF 14)) (varF 18)) (dgetxF (varF 19) (varF 14) (conF (.int 0))) (cntF 3 (varF 14))) [14]) nilF)))))))))))))))))))))
/-- _law_are_lots_right: slots 0=pot 1=many 2=size 3=flows 4=names 5=far 6=told 7=its 8=cut 9=one 10=other 11=rows 12=less 13=sums 14=flow 15=much 16=ranked 17=cutoff 18=lost 19=counts 20=packet -/
noncomputable def m__law_are_lots_right : DF := defF 21 b__law_are_lots_right
noncomputable def b_most_lost : SF :=
  (seqS (exprS (callF 1 m_look_at_many (consF (varF 0) nilF))) (seqS (ifS (notT (asT (callF 3 m_is_int (consF (varF 1) (consF (conF (.int 0)) (consF (conF (.int 1000000)) nilF)))))) noneS nextS) (retS (binF divI (varF 1) (binF addT (varF 0) (conF (.int 1)))))))
/-- most_lost: slots 0=many 1=packets -/
noncomputable def m_most_lost : DF := defF 2 b_most_lost
noncomputable def b_told_amounts : SF :=
  (seqS (setS 1 dnewF) (seqS (forS (tupI (varF 0)) (nameG 2) (dputS (varF 1) (varF 2) (binF addT (dgetxF (varF 1) (varF 2) (conF (.int 0))) (conF (.int 1))))) (retS (varF 1))))
/-- told_amounts: slots 0=flows 1=found 2=flow -/
noncomputable def m_told_amounts : DF := defF 3 b_told_amounts
noncomputable def b_told_heavy : SF :=
  (seqS (setS 2 (callF 1 m_told_amounts (consF (varF 0) nilF))) (retS (argF tupleT (consF (argF sortedT (consF (lockF 2 (lcF (keysI (varF 2)) (nameG 3) (asT (binF gtI (binF mulT (dgetF (varF 2) (varF 3)) (varF 1)) (argF lenT (consF (varF 0) nilF)))) (varF 3) [3])) nilF)) nilF))))
/-- told_heavy: slots 0=flows 1=parts 2=counts 3=flow -/
noncomputable def m_told_heavy : DF := defF 4 b_told_heavy
noncomputable def b_heavy : SF :=
  (seqS (exprS (callF 1 m_look_at_flows (consF (varF 0) nilF))) (seqS (ifS (notT (asT (callF 3 m_is_int (consF (varF 1) (consF (conF (.int 1)) (consF (binF addT (conF (.int 20)) (conF (.int 1))) nilF)))))) noneS nextS) (retS (callF 2 m_told_heavy (consF (varF 0) (consF (varF 1) nilF))))))
/-- heavy: slots 0=flows 1=parts -/
noncomputable def m_heavy : DF := defF 2 b_heavy
noncomputable def b_sure_by : SF :=
  (seqS (exprS (callF 1 m_look_at_many (consF (varF 0) nilF))) (seqS (exprS (callF 1 m_look_at_flows (consF (varF 1) nilF))) (seqS (ifS (notT (asT (callF 3 m_is_int (consF (varF 2) (consF (conF (.int 0)) (consF (conF (.int 1000)) nilF)))))) noneS nextS) (seqS (asgS (callF 2 m_told_counters (consF (varF 0) (consF (varF 1) nilF))) (tupG 2 (consG (nameG 3) (consG (nameG 4) nilG)))) (seqS (setS 5 (dgetxF (varF 3) (varF 2) (conF (.int 0)))) (seqS (ifS (asT (binF gtI (binF mulI (varF 5) (binF addT (varF 0) (conF (.int 1)))) (argF lenT (consF (varF 1) nilF)))) (retS (conF (.str "sure"))) nextS) (retS (ifF (asT (binF leI (binF mulI (binF addT (varF 5) (varF 4)) (binF addT (varF 0) (conF (.int 1)))) (argF lenT (consF (varF 1) nilF)))) (conF (.str "light")) (conF .none)))))))))
/-- sure_by: slots 0=many 1=flows 2=flow 3=found 4=lessened 5=count -/
noncomputable def m_sure_by : DF := defF 6 b_sure_by
noncomputable def b__law_are_turns_right : SF :=
  (seqS (setS 2 (argF intT (consF (callF 2 m__law_take (consF (varF 0) (consF (conF (.int 15)) nilF))) nilF))) (seqS (setS 3 (lcF (lstI (callF 3 m__law_some (consF (varF 0) (consF (lrg1F (conF (.int 1001))) (consF (binF addT (varF 1) (conF (.int 1))) nilF))))) (nameG 11) yesT (argF intT (consF (varF 11) nilF)) [11])) (seqS (parS 4 5 (consF (binF mulT (argF tupleT (consF (sliceF (varF 3) noO (someO (varF 1))) nilF)) (varF 2)) (consF (binF mulT (argF tupleT (consF (varF 3) nilF)) (varF 2)) nilF))) (seqS (setS 6 (ifF (asT (binF gtI (varF 2) (conF (.int 0)))) (argF tupleT (consF (argF sortedT (consF (lcF (lstI (sliceF (varF 3) noO (someO (varF 1)))) (nameG 11) yesT (tupF (consF (varF 11) (consF (varF 2) nilF))) [11]) nilF)) nilF)) (tupF nilF))) (seqS (ifS (orT (asT (binF (eqT true) (callF 2 m_counters (consF (varF 1) (consF (varF 4) nilF))) (tupF (consF (varF 6) (consF (conF (.int 0)) nilF))))) (asT (binF (eqT true) (callF 2 m_counters (consF (varF 1) (consF (varF 5) nilF))) (tupF (consF (tupF nilF) (consF (varF 2) nilF)))))) (retS (conF (.bool false))) nextS) (seqS (ifS (orT (asT (binF (eqT true) (callF 2 m_most_lost (consF (varF 1) (consF (argF lenT (consF (varF 5) nilF)) nilF))) (varF 2))) (asT (binF (eqT true) (callF 2 m_most_lost (consF (varF 1) (consF (argF lenT (consF (varF 4) nilF)) nilF))) (binF divI (argF lenT (consF (varF 4) nilF)) (binF addT (varF 1) (conF (.int 1))))))) (retS (conF (.bool false))) nextS) (seqS (ifS (orT (asT (binF (eqT true) (callF 2 m_heavy (consF (varF 5) (consF (binF addT (varF 1) (conF (.int 1))) nilF))) (tupF nilF))) (asT (binF (eqT true) (callF 2 m_heavy (consF (binF addT (varF 5) (argF tupleT (consF (sliceF (varF 3) noO (someO (conF (.int 1)))) nilF))) (consF (binF addT (varF 1) (conF (.int 1))) nilF))) (argF tupleT (consF (sliceF (varF 3) noO (someO (conF (.int 1)))) nilF))))) (retS (conF (.bool false))) nextS) (seqS (setS 7 (binF mulT (tupF (consF (binF ixT (varF 3) (conF (.int 0))) nilF)) (binF addT (varF 2) (conF (.int 1))))) (seqS (ifS (orT (asT (binF (eqT true) (callF 2 m_counters (consF (varF 1) (consF (varF 7) nilF))) (tupF (consF (tupF (consF (tupF (consF (binF ixT (varF 3) (conF (.int 0))) (consF (binF addT (varF 2) (conF (.int 1))) nilF))) nilF)) (consF (conF (.int 0)) nilF))))) (asT (binF (eqT true) (callF 3 m_sure_by (consF (varF 1) (consF (varF 7) (consF (binF ixT (varF 3) (conF (.int 0))) nilF)))) (conF (.str "sure"))))) (retS (conF (.bool false))) nextS) (seqS (setS 8 (argF tupleT (consF (lcF (range1I (consF (varF 2) nilF)) (nameG 12) yesT (binF ixT (varF 3) (binF addT (conF (.int 1)) (argF intT (consF (callF 2 m__law_take (consF (varF 0) (consF (varF 1) nilF))) nilF)))) [12]) nilF))) (seqS (setS 9 (argF tupleT (consF (callF 3 m__law_some (consF (varF 0) (consF (argF listT (consF (binF addT (varF 7) (varF 8)) nilF)) (consF (binF addT (binF mulI (conF (.int 2)) (varF 2)) (conF (.int 1))) nilF)))) nilF))) (seqS (setS 10 (callF 2 m_counters (consF (conF (.int 1)) (consF (varF 9) nilF)))) (seqS (ifS (orT (asT (binF (eqT true) (argF lenT (consF (binF ixT (varF 10) (conF (.int 0))) nilF)) (conF (.int 1)))) (orT (asT (binF (eqT true) (binF ixT (binF ixT (binF ixT (varF 10) (conF (.int 0))) (conF (.int 0))) (conF (.int 0))) (binF ixT (varF 3) (conF (.int 0))))) (asT (binF (eqT true) (callF 2 m_heavy (consF (varF 9) (consF (conF (.int 2)) nilF))) (tupF (consF (binF ixT (varF 3) (conF (.int 0))) nilF)))))) (retS (conF (.bool false))) nextS) (retS (binF (eqT false) (binF addT (binF ixT (binF ixT (binF ixT (varF 10) (conF (.int 0))) (conF (.int 0))) (conF (.int 1))) (binF mulI (conF (.int 2)) (binF ixT (varF 10) (conF (.int 1))))) (argF lenT (consF (varF 9) nilF)))))))))))))))))
/-- _law_are_turns_right: slots 0=pot 1=many 2=rounds 3=names 4=few 5=more 6=due 7=lone 8=others 9=mixed 10=told 11=flow 12=packet -/
noncomputable def m__law_are_turns_right : DF := defF 13 b__law_are_turns_right
noncomputable def b__law_are_blocks_right : SF :=
  (seqS (setS 2 (lcF (lstI (callF 3 m__law_some (consF (varF 0) (consF (lrg1F (conF (.int 1001))) (consF (argF min2T (consF (conF (.int 20)) (consF (binF addT (varF 1) (conF (.int 3))) nilF))) nilF))))) (nameG 11) yesT (argF intT (consF (varF 11) nilF)) [11])) (seqS (setS 3 (lcF (lstI (varF 2)) (nameG 11) yesT (binF addT (conF (.int 1)) (argF intT (consF (callF 2 m__law_take (consF (varF 0) (consF (conF (.int 12)) nilF))) nilF))) [11])) (seqS (setS 4 (tupF nilF)) (seqS (forS (zipI (consF (varF 2) (consF (varF 3) nilF))) (tupG 2 (consG (nameG 5) (consG (nameG 6) nilG))) (setS 4 (binF addT (varF 4) (binF mulT (tupF (consF (varF 5) nilF)) (varF 6))))) (seqS (setS 7 (callF 2 m_counters (consF (varF 1) (consF (varF 4) nilF)))) (seqS (ifS (orT (asT (binF (eqT true) (varF 7) (callF 2 m__law_go (consF (varF 1) (consF (varF 4) nilF))))) (asT (binF gtI (binF ixT (varF 7) (conF (.int 1))) (callF 2 m_most_lost (consF (varF 1) (consF (argF lenT (consF (varF 4) nilF)) nilF)))))) (retS (conF (.bool false))) nextS) (seqS (parS 8 9 (consF (argF sumT (consF (lcF (tupI (binF ixT (varF 7) (conF (.int 0)))) (tupG 2 (consG (nameG 11) (consG (nameG 12) nilG))) yesT (varF 12) [11, 12]) nilF)) (consF (binF mulI (binF ixT (varF 7) (conF (.int 1))) (binF addT (varF 1) (conF (.int 1)))) nilF))) (seqS (ifS (asT (binF (eqT true) (binF addT (varF 8) (varF 9)) (argF lenT (consF (varF 4) nilF)))) (retS (conF (.bool false))) nextS) (seqS (setS 10 (argF dictT (consF (lzipF (consF (varF 2) (consF (varF 3) nilF))) nilF))) (seqS (forS (zipI (consF (varF 2) (consF (varF 3) nilF))) (tupG 2 (consG (nameG 11) (consG (nameG 6) nilG))) (seqS (setS 12 (dgetxF (argF dictT (consF (argF listT (consF (binF ixT (varF 7) (conF (.int 0))) nilF)) nilF)) (varF 11) (conF (.int 0)))) (seqS (ifS (notT (asT (chainF leI leI (binF subI (varF 6) (binF ixT (varF 7) (conF (.int 1)))) (varF 12) (varF 6)))) (retS (conF (.bool false))) nextS) (seqS (setS 13 (callF 3 m_sure_by (consF (varF 1) (consF (varF 4) (consF (varF 11) nilF))))) (seqS (setS 14 (ifF (asT (binF leI (binF mulI (binF addT (varF 12) (binF ixT (varF 7) (conF (.int 1)))) (binF addT (varF 1) (conF (.int 1)))) (argF lenT (consF (varF 4) nilF)))) (conF (.str "light")) (conF .none))) (seqS (setS 14 (ifF (asT (binF gtI (binF mulI (varF 12) (binF addT (varF 1) (conF (.int 1)))) (argF lenT (consF (varF 4) nilF)))) (conF (.str "sure")) (varF 14))) (seqS (ifS (orT (asT (binF (eqT true) (argF reprT (consF (varF 13) nilF)) (argF reprT (consF (varF 14) nilF)))) (andT (asT (binF (eqT false) (varF 13) (conF (.str "sure")))) (asT (binF leI (binF mulI (varF 6) (binF addT (varF 1) (conF (.int 1)))) (argF lenT (consF (varF 4) nilF)))))) (retS (conF (.bool false))) nextS) (ifS (andT (asT (binF (eqT false) (varF 13) (conF (.str "light")))) (asT (binF gtI (binF mulI (varF 6) (binF addT (varF 1) (conF (.int 1)))) (argF lenT (consF (varF 4) nilF))))) (retS (conF (.bool false))) nextS)))))))) (seqS (setS 15 (binF addT (conF (.int 1)) (argF intT (consF (callF 2 m__law_take (consF (varF 0) (consF (conF (.int 21)) nilF))) nilF)))) (seqS (ifS (asT (binF (eqT true) (argF listT (consF (callF 2 m_heavy (consF (varF 4) (consF (varF 15) nilF))) nilF)) (argF sortedT (consF (lockF 10 (lcF (keysI (varF 10)) (nameG 11) (asT (binF gtI (binF mulT (dgetF (varF 10) (varF 11)) (varF 15)) (argF lenT (consF (varF 4) nilF)))) (varF 11) [11])) nilF)))) (retS (conF (.bool false))) nextS) (retS (argF (allT false) (consF (lcF (tupI (callF 2 m_heavy (consF (varF 4) (consF (binF addT (varF 1) (conF (.int 1))) nilF)))) (nameG 11) yesT (dinF false (varF 11) (argF dictT (consF (argF listT (consF (binF ixT (varF 7) (conF (.int 0))) nilF)) nilF))) [11]) nilF)))))))))))))))
/-- _law_are_blocks_right: slots 0=pot 1=many 2=names 3=blocks 4=flows 5=name 6=size 7=told 8=total 9=lost 10=whole 11=flow 12=much 13=word 14=due 15=parts -/
noncomputable def m__law_are_blocks_right : DF := defF 16 b__law_are_blocks_right
noncomputable def b_law : SF :=
  (seqS (forS (lstI (callF 2 m__law_cells (consF (varF 0) (consF (conF (.int 3)) nilF)))) (nameG 1) (seqS (setS 2 (callF 2 m__law_pot (consF (varF 0) (consF (varF 1) nilF)))) (forS (range1I (consF (conF (.int 2)) nilF)) (nameG 3) (seqS (setS 4 (binF addT (conF (.int 1)) (argF intT (consF (callF 2 m__law_take (consF (varF 2) (consF (callF 2 m__law_of (consF (varF 2) (consF (lstF (consF (conF (.int 3)) (consF (conF (.int 20)) nilF))) nilF))) nilF))) nilF)))) (seqS (ifS (orT (notT (asT (callF 2 m__law_are_turns_right (consF (varF 2) (consF (varF 4) nilF))))) (notT (asT (callF 2 m__law_are_blocks_right (consF (varF 2) (consF (varF 4) nilF)))))) (retS (conF (.bool false))) nextS) (ifS (notT (asT (callF 2 m__law_are_lots_right (consF (varF 2) (consF (varF 4) nilF))))) (retS (conF (.bool false))) nextS)))))) (retS (conF (.bool true))))
/-- law: slots 0=script 1=place 2=pot 3=lap 4=many -/
noncomputable def m_law : DF := defF 5 b_law
end G66
set_option maxHeartbeats 1000000
namespace G66
open PySem PySem.Spec PyProof.Rows L2 Pv
theorem r_is_int (k lo hi : Int) (S : Sto) : m_is_int [.p (.int k), .p (.int lo), .p (.int hi)] S = some (.p (.bool (decide (lo ≤ k) && decide (k ≤ hi))), S) := by
  refine m_ret (r := .p (.bool (decide (lo ≤ k) && decide (k ≤ hi)))) (env' := _) (S' := S) (by
    by_cases h : lo ≤ k <;> simp [b_is_int, h]
    all_goals rfl) (by simp)
abbrev pot3 (a b c : Int) : O := .lst [.int a, .int b, .int c]
@[simp] theorem tk1 {α : Type} {R : List α} {x : α} : (R ++ [x]).take (R.length + 1) = R ++ [x] := by
  have := List.take_length_add_append (l₁ := R) (l₂ := [x]) 1
  simpa using this
@[simp] theorem tk2 {α : Type} {R : List α} {x y : α} : (R ++ [x, y]).take (R.length + 2) = R ++ [x, y] := by
  have := List.take_length_add_append (l₁ := R) (l₂ := [x, y]) 2
  simpa using this
@[simp] theorem tk12 {α : Type} {R : List α} {x y : α} : (R ++ [x, y]).take (R.length + 1) = R ++ [x] := by
  have := List.take_length_add_append (l₁ := R) (l₂ := [x, y]) 1
  simpa using this
@[simp] theorem at0 {α : Type} {x : α} {l : List α} : atI (x :: l) 0 = some x := by unfold atI ixN; simp
@[simp] theorem at1 {α : Type} {x y : α} {l : List α} : atI (x :: y :: l) 1 = some y := atI_nat (j := 1) rfl
@[simp] theorem at2 {α : Type} {x y z : α} {l : List α} : atI (x :: y :: z :: l) 2 = some z := atI_nat (j := 2) rfl
theorem primes (c : Int) : ∃ p : Int, atI [PyData.int 2147483647, .int 2147483629, .int 2147483587, .int 2147483579, .int 2147483563] (c % 5) = some (.int p) ∧ 0 < p ∧ p < 2 ^ 31 := by
  have h1 := Int.emod_nonneg c (by decide : (5 : Int) ≠ 0)
  have h2 := Int.emod_lt_of_pos c (by decide : (0 : Int) < 5)
  generalize c % 5 = m at h1 h2
  have : m = 0 ∨ m = 1 ∨ m = 2 ∨ m = 3 ∨ m = 4 := by omega
  rcases this with rfl | rfl | rfl | rfl | rfl
  · exact ⟨_, rfl, by decide, by decide⟩
  · exact ⟨_, rfl, by decide, by decide⟩
  · exact ⟨_, rfl, by decide, by decide⟩
  · exact ⟨_, rfl, by decide, by decide⟩
  · exact ⟨_, rfl, by decide, by decide⟩
theorem cmul_r {i j : Int} (h : -(2 ^ 64) < j) (h' : j < 2 ^ 64) : CMul i j := .inr ⟨h, h'⟩
theorem cmul_l {i j : Int} (h : -(2 ^ 64) < i) (h' : i < 2 ^ 64) : CMul i j := .inl ⟨h, h'⟩
theorem r_take (a b c u : Int) (ha : 0 ≤ a) (hb : 0 ≤ b) (hb2 : b < 2305843009213693921) (hc : 0 ≤ c) (hc2 : c ≤ 1000000) (hu : 0 < u) (hu2 : u < 1000000) (C : O) (R : Sto) :
    ∃ a' c' d, m__law_take [.loc 1, .p (.int u)] (C :: pot3 a b c :: R) = some (.p (.int d), C :: pot3 a' b c' :: R) ∧ 0 ≤ a' ∧ c ≤ c' ∧ c' ≤ c + 1 ∧ 0 ≤ d ∧ d < u := by
  have dv : ∀ x, CDiv x u := fun x => ⟨hu, by omega⟩
  have md : ∀ x, 0 ≤ x % u ∧ x % u < u := fun x => ⟨Int.emod_nonneg _ (by omega), Int.emod_lt_of_pos _ hu⟩
  by_cases h : 0 < a
  · refine ⟨a / u, c, a % u, m_ret (r := .p (.int (a % u))) (env' := _) (S' := C :: pot3 (a / u) b c :: R) (by
      simp [b__law_take, h, hu, dv, ixN]
      rfl) (by simp), Int.ediv_nonneg ha (by omega), by omega, by omega, md a⟩
  · obtain ⟨p, hp, hp0, hp1⟩ := primes (c + 1)
    have c1 : ∀ i, CMul 93257 i := fun i => cmul_l (by decide) (by decide)
    have c2 : ∀ i, CMul i (c + 1) := fun i => cmul_r (by omega) (by omega)
    have c3 : ∀ i, CMul 439 i := fun i => cmul_l (by decide) (by decide)
    have c4 : ∀ i j, CMul (i % p) j := fun i j => by
      have h1 := Int.emod_nonneg i (by omega : p ≠ 0)
      have h2 := Int.emod_lt_of_pos i hp0
      exact cmul_l (by omega) (by omega)
    have hsq : 0 ≤ 93257 * (c + 1) * (c + 1) ∧ 93257 * (c + 1) * (c + 1) ≤ 93257 * 1000001 * 1000001 :=
      ⟨Int.mul_nonneg (by omega) (by omega), Int.mul_le_mul (by omega) (by omega) (by omega) (by omega)⟩
    have c5 : CPowA (b + 93257 * (c + 1) * (c + 1) + 4153) 3 := .inl ⟨by decide, by decide, by omega⟩
    have c6 : ∀ i, CDiv i 251 := fun i => ⟨by decide, by decide⟩
    refine ⟨a, c + 1, (b + 93257 * (c + 1) * (c + 1) + 4153) ^ 3 % p * ((b + 93257 * (c + 1) * (c + 1) + 4153) ^ 3 % p % 12923 + 439 * (c + 1)) % 2305843009213693907 / 251 % u, m_ret (r := .p (.int _)) (env' := _) (S' := C :: pot3 a b (c + 1) :: R) (by
      simp [b__law_take, h, hu, dv, ixN, hp, hp0, c1, c2, c3, c4, c5, c6, allP, gcOb, gcV, gcT]
      first | exact ⟨rfl, rfl⟩ | rfl) (by simp), ha, by omega, by omega, (md _).1, (md _).2⟩
/-- draws from the pot: the store's second object -/
def PotOk (k : Int) (p : O) : Prop := ∃ a b c, p = pot3 a b c ∧ 0 ≤ a ∧ 0 ≤ b ∧ b < 2305843009213693921 ∧ 0 ≤ c ∧ c ≤ k
theorem PotOk.mono {k l : Int} {p : O} (h : PotOk k p) (hl : k ≤ l) : PotOk l p := by
  obtain ⟨a, b, c, e, h1, h2, h3, h4, h5⟩ := h
  exact ⟨a, b, c, e, h1, h2, h3, h4, by omega⟩
theorem p_take {k u : Int} {p C : O} {R : Sto} (h : PotOk k p) (hk : k ≤ 1000000) (hu : 0 < u) (hu2 : u < 1000000) : ∃ p' d, m__law_take [.loc 1, .p (.int u)] (C :: p :: R) = some (.p (.int d), C :: p' :: R) ∧ PotOk (k + 1) p' ∧ 0 ≤ d ∧ d < u := by
  obtain ⟨a, b, c, rfl, h1, h2, h3, h4, h5⟩ := h
  obtain ⟨a', c', d, e, h6, h7, h8, h9, h10⟩ := r_take a b c u h1 h2 h3 h4 (by omega) hu hu2 C R
  exact ⟨_, d, e, ⟨a', b, c', rfl, h6, h2, h3, by omega, by omega⟩, h9, h10⟩
/-- a drawn one of two small numbers -/
theorem p_of {k x y : Int} {p C : O} {R : Sto} (h : PotOk k p) (hk : k ≤ 1000000) : ∃ p' d, m__law_of [.loc 1, .loc (R.length + 2)] (C :: p :: (R ++ [.lst [.int x, .int y]])) = some (.p (.int d), C :: p' :: (R ++ [.lst [.int x, .int y]])) ∧ PotOk (k + 1) p' ∧ (d = x ∨ d = y) := by
  obtain ⟨p', d, e, h1, h2, h3⟩ := p_take (C := C) (R := R ++ [.lst [.int x, .int y]]) (u := 2) h hk (by decide) (by decide)
  have hd : d = 0 ∨ d = 1 := by omega
  refine ⟨p', if d = 0 then x else y, m_ret (r := .p (.int (if d = 0 then x else y))) (env' := _) (S' := C :: p' :: (R ++ [.lst [.int x, .int y]])) (by
    simp [b__law_of, e]
    rcases hd with rfl | rfl <;> simp
    all_goals rfl) (by simp), h1, by split <;> simp⟩
theorem rangeL_at {k : Nat} {j : Nat} {x : D} {lo : Int} (h : (rangeL lo k)[j]? = some x) : x = .int (lo + j) ∧ j < k := by
  unfold rangeL at h
  rw [List.getElem?_map] at h
  by_cases hj : j < k
  · rw [List.getElem?_range hj] at h
    exact ⟨(Option.some.inj h).symm, hj⟩
  · rw [List.getElem?_eq_none (by simpa using hj)] at h; cases h
@[simp] theorem rangeL_len (lo : Int) (k : Nat) : (rangeL lo k).length = k := by simp [rangeL]
theorem erase_perm : ∀ (xs : List Int) (i : Nat) (x : Int), xs[i]? = some x → (x :: xs.eraseIdx i).Perm xs
  | [], i, x, h => by simp at h
  | y :: ys, 0, x, h => by simp at h; subst h; simp
  | y :: ys, i + 1, x, h => by
    have ih := erase_perm ys i x (by simpa using h)
    rw [List.eraseIdx_cons_succ]
    exact (List.Perm.swap y x _).trans (ih.cons y)
theorem erase_map : ∀ (xs : List Int) (i : Nat), (xs.map PyData.int).eraseIdx i = (xs.eraseIdx i).map PyData.int
  | [], i => by simp
  | y :: ys, 0 => by simp
  | y :: ys, i + 1 => by simp [erase_map ys i]
theorem perm_pop {xs ys : List Int} {i : Nat} {x : Int} (h : xs[i]? = some x) : (ys ++ [x] ++ xs.eraseIdx i).Perm (ys ++ xs) := by
  rw [List.append_assoc]
  exact List.Perm.append_left ys (erase_perm xs i x h)
/-- the body of _law_some's loop -/
noncomputable def someB : SF := exprS (methF appendT (varF 4) (consF (methF popAtT (varF 3) (consF (callF 2 m__law_take (consF (varF 0) (consF (argF lenT (consF (varF 3) nilF)) nilF))) nilF)) nilF))
theorem some_step {p1 p2 C : O} {R : Sto} {q j many : Nat} {rests ys : List Int} {d y : Int} (hl : ys.length ≤ 3000) (e2 : m__law_take [.loc 1, .p (.int rests.length)] (C :: p1 :: (R ++ [.lst (rests.map PyData.int), .lst (ys.map PyData.int)])) = some (.p (.int d), C :: p2 :: (R ++ [.lst (rests.map PyData.int), .lst (ys.map PyData.int)])))
    (h4 : 0 ≤ d) (h5 : d < rests.length) (h6 : d < 2 ^ 63) (hy : rests[d.toNat]? = some y) :
    someB (R.length + 2) [some (.loc 1), some (.loc q), some (.p (.int many)), some (.loc (R.length + 2)), some (.loc (R.length + 3)), some (.p (.int (0 + j)))] (C :: p1 :: (R ++ [.lst (rests.map PyData.int), .lst (ys.map PyData.int)]))
          = some (.nx, [some (.loc 1), some (.loc q), some (.p (.int many)), some (.loc (R.length + 2)), some (.loc (R.length + 3)), some (.p (.int (0 + j)))], C :: p2 :: (R ++ [.lst ((rests.eraseIdx d.toNat).map PyData.int), .lst ((ys ++ [y]).map PyData.int)])) := by
  have hz : ys.length < sizeLine := by rw [sizeLine_eq]; omega
  have e4 : popAtT (.loc (R.length + 2)) [.p (.int d)] (C :: p2 :: (R ++ [.lst (rests.map PyData.int), .lst (ys.map PyData.int)])) = some (.p (.int y), C :: p2 :: (R ++ [.lst ((rests.eraseIdx d.toNat).map PyData.int), .lst (ys.map PyData.int)])) := by
    rw [e_popAt (xs := rests.map PyData.int) (by simp) ⟨h4, by simpa using h5, h6⟩]
    simp [hy, erase_map]
  simp [someB, e2, e4, hz]
theorem p_some {k : Int} {p C : O} {R : Sto} {q : Nat} {xs : List Int} {many : Nat} (h : PotOk k p) (hk : k + many ≤ 1000000) (hq : (C :: p :: R)[q]? = some (.lst (xs.map PyData.int))) (hq1 : q ≠ 1) (hm : many ≤ xs.length) (hx : xs.length ≤ 2000) :
    ∃ (p' : O) (ys rest : List Int), m__law_some [.loc 1, .loc q, .p (.int many)] (C :: p :: R) = some (.loc (R.length + 2), C :: p' :: R ++ [.lst (ys.map PyData.int)]) ∧ PotOk (k + many) p' ∧ ys.length = many ∧ (ys ++ rest).Perm xs := by
  have hsm : many ≤ 1000000 := by omega
  -- the loop
  obtain ⟨env', S', e1, p', rests, ys, hS, hp, hl, hperm, henv⟩ := loop_inv (gf := nameG 5) (sb := someB) (n := R.length + 2) (m := R.length + 4) (gd := [])
    (fun i env S => ∃ (p' : O) (rests ys : List Int), S = C :: p' :: (R ++ [.lst (rests.map PyData.int), .lst (ys.map PyData.int)]) ∧ PotOk (k + i) p' ∧ ys.length = i ∧ (ys ++ rests).Perm xs ∧ ∃ l : Option T, env = [some (.loc 1), some (.loc q), some (.p (.int many)), some (.loc (R.length + 2)), some (.loc (R.length + 3)), l])
    (fun _ _ _ _ => gd_nil) (rangeL 0 many) 0 [some (.loc 1), some (.loc q), some (.p (.int many)), some (.loc (R.length + 2)), some (.loc (R.length + 3)), none] (C :: p :: (R ++ [.lst (xs.map PyData.int), .lst []]))
    ⟨p, xs, [], rfl, by simpa using h, rfl, by simp, none, rfl⟩ (fun j x env S hj ⟨p1, rests, ys, hS, hp, hl, hperm, l, henv⟩ => by
      obtain ⟨rfl, hj⟩ := rangeL_at hj
      subst hS henv
      have hlen := hperm.length_eq
      rw [List.length_append] at hlen
      have hr : 0 < rests.length := by omega
      obtain ⟨p2, d, e2, h3, h4, h5⟩ := p_take (C := C) (R := R ++ [.lst (rests.map PyData.int), .lst (ys.map PyData.int)]) (u := rests.length) hp (by omega) (by omega) (by omega)
      obtain ⟨y, hy⟩ : ∃ y, rests[d.toNat]? = some y := ⟨_, List.getElem?_eq_getElem (by omega)⟩
      have hd : d.toNat < rests.length := by omega
      have e3 := some_step (C := C) (R := R) (q := q) (many := many) (j := j) (by omega) e2 h4 h5 (by omega) hy
      refine ⟨_, _, _, _, rfl, e3, p2, rests.eraseIdx d.toNat, ys ++ [y], ?_, ?_, by simp [hl], ?_, some (.p (.int (0 + j))), ?_⟩
      · exact List.take_of_length_le (by simp)
      · have : (k + ((0 + j : Nat) : Int)) + 1 = k + ((0 + j + 1 : Nat) : Int) := by omega
        rw [← this]; exact h3
      · exact (perm_pop hy).trans hperm
      · have hq9 : q < R.length + 4 := by
          have := (List.getElem?_eq_some_iff.mp hq).1
          simp at this; omega
        simp [forget, keepSlot, below, hq9])
  subst hS
  obtain ⟨l, rfl⟩ := henv
  have hq9 : q < R.length + 2 := by
    have := (List.getElem?_eq_some_iff.mp hq).1
    simp at this; omega
  have b1 : parS 3 4 (consF (argF listT (consF (varF 1) nilF)) (consF (lstF nilF) nilF)) (R.length + 2) [some (.loc 1), some (.loc q), some (.p (.int many)), none, none, none] (C :: p :: R) = some (.nx, [some (.loc 1), some (.loc q), some (.p (.int many)), some (.loc (R.length + 2)), some (.loc (R.length + 3)), none], C :: p :: (R ++ [.lst (xs.map PyData.int), .lst []])) := by
    have := s_parLL (i := 3) (j := 4) (env := [some (.loc 1), some (.loc q), some (.p (.int many)), none, none, none]) (S := C :: p :: R) (m := R.length + 2) (o := .lst (xs.map PyData.int)) (o' := .lst []) (by simp)
    simp [hq, e_listL (S := C :: p :: R) hq, allP]
    simpa using this
  have b2 : forS (range1I (consF (varF 2) nilF)) (nameG 5) someB (R.length + 2) [some (.loc 1), some (.loc q), some (.p (.int many)), some (.loc (R.length + 2)), some (.loc (R.length + 3)), none] (C :: p :: (R ++ [.lst (xs.map PyData.int), .lst []]))
      = some (.nx, [some (.loc 1), some (.loc q), some (.p (.int many)), some (.loc (R.length + 2)), some (.loc (R.length + 3)), keepSlot (R.length + 4) l], C :: p' :: (R ++ [.lst (rests.map PyData.int), .lst (ys.map PyData.int)])) := by
    have e0 : (C :: p :: (R ++ [.lst (xs.map PyData.int), .lst []])).length = R.length + 4 := by simp
    have hi : range1I (consF (varF 2) nilF) [some (.loc 1), some (.loc q), some (.p (.int many)), some (.loc (R.length + 2)), some (.loc (R.length + 3)), none] (C :: p :: (R ++ [.lst (xs.map PyData.int), .lst []])) = some (rangeL 0 many, [], C :: p :: (R ++ [.lst (xs.map PyData.int), .lst []])) := i_range1 (by simp) hsm
    rw [s_for_run hi e0 e1, e0]
    have t1 : (C :: p' :: (R ++ [.lst (rests.map PyData.int), .lst (ys.map PyData.int)])).take (R.length + 4) = C :: p' :: (R ++ [.lst (rests.map PyData.int), .lst (ys.map PyData.int)]) := List.take_of_length_le (by simp)
    rw [t1]
    have hq10 : q < R.length + 4 := by omega
    have k0 : ∀ d, keepSlot (R.length + 4) (some (.p d)) = some (.p d) := fun _ => rfl
    have k1 : ∀ i, i < R.length + 4 → keepSlot (R.length + 4) (some (.loc i)) = some (.loc i) := fun i hi => by simp [keepSlot, below, hi]
    simp only [forget, List.map_cons, List.map_nil, k0, k1 1 (by omega), k1 q hq10, k1 (R.length + 2) (by omega), k1 (R.length + 3) (by omega)]
  refine ⟨p', ys, rests, m_ret (r := .loc (R.length + 3)) (env' := [some (.loc 1), some (.loc q), some (.p (.int many)), some (.loc (R.length + 2)), some (.loc (R.length + 3)), keepSlot (R.length + 4) l]) (S' := C :: p' :: (R ++ [.lst (rests.map PyData.int), .lst (ys.map PyData.int)])) ?_ ?_, by simpa using hp, by simpa using hl, hperm⟩
  · show b__law_some (R.length + 2) [some (.loc 1), some (.loc q), some (.p (.int many)), none, none, none] (C :: p :: R) = _
    show seqS (parS 3 4 (consF (argF listT (consF (varF 1) nilF)) (consF (lstF nilF) nilF))) (seqS (forS (range1I (consF (varF 2) nilF)) (nameG 5) someB) (retS (varF 4))) _ _ _ = _
    rw [s_seq, b1, Option.bind_some, s_seqN, s_seq, b2, Option.bind_some, s_seqN, s_ret, e_var, List.getElem?_cons_succ, List.getElem?_cons_succ, List.getElem?_cons_succ, List.getElem?_cons_succ, List.getElem?_cons_zero, e_varK, dn_loc, Option.map_some, s_retK]
  · have h9 : ¬ (R.length + 3 < R.length + 1 + 1) := by omega
    simp [gcV, gcT, gcOb, h9]
end G66
set_option maxHeartbeats 1000000
/-! P66b: the counters of one traffic. -/
namespace G66
open PySem PySem.Spec PyProof.Rows L2 Pv
abbrev CL := List (Int × Int)
def enc (L : CL) : KD := L.map fun p => (.inl p.1, .int p.2)
def lk (L : CL) (f : Int) : Option Int := (L.find? fun p => decide (p.1 = f)).map (·.2)
def has (L : CL) (f : Int) : Bool := L.any fun p => decide (p.1 = f)
def put (L : CL) (f c : Int) : CL := if has L f = true then L.map (fun p => if p.1 = f then (p.1, c) else p) else L ++ [(f, c)]
def dec (L : CL) : CL := (L.filter fun p => decide (1 < p.2)).map fun p => (p.1, p.2 - 1)
def nd (L : CL) : Prop := (L.map (·.1)).Nodup
def mgStep (many : Int) (s : CL × Int) (f : Int) : CL × Int := if has s.1 f = true ∨ (s.1.length : Int) < many then (put s.1 f ((lk s.1 f).getD 0 + 1), s.2) else (dec s.1, s.2 + 1)
def mg (many : Int) (fs : List Int) : CL × Int := fs.foldl (mgStep many) ([], 0)
theorem key_inl (a b : Int) : (decide ((Sum.inl a : Key) = Sum.inl b)) = decide (a = b) := by
  by_cases h : a = b
  · subst h; simp
  · have : ¬ ((Sum.inl a : Key) = Sum.inl b) := fun e => h (Sum.inl.inj e)
    rw [decide_eq_false this, decide_eq_false h]
theorem val_enc (L : CL) (f : Int) : valD (enc L) (.inl f) = (lk L f).map PyData.int := by
  unfold valD enc lk
  induction L with
  | nil => rfl
  | cons p L ih =>
    rw [List.map_cons, List.find?_cons, List.find?_cons]
    simp only [key_inl]
    by_cases h : p.1 = f
    · rw [decide_eq_true h]; rfl
    · rw [decide_eq_false h]; exact ih
theorem any_enc (L : CL) (f : Int) : ((enc L).any fun kv => decide (kv.1 = (Sum.inl f : Key))) = has L f := by
  unfold enc has
  induction L with
  | nil => rfl
  | cons p L ih => rw [List.map_cons, List.any_cons, List.any_cons, ih, key_inl]
theorem put_enc (L : CL) (f c : Int) : putD (enc L) (.inl f) (.int c) = enc (put L f c) := by
  unfold putD put
  rw [any_enc]
  by_cases h : has L f = true
  · rw [if_pos h, if_pos h]
    unfold enc
    rw [List.map_map, List.map_map]
    refine List.map_congr_left fun p _ => ?_
    show (if (Sum.inl p.1 : Key) = Sum.inl f then _ else _) = _
    by_cases e : p.1 = f
    · rw [if_pos (by rw [e])]
      show _ = ((Sum.inl (if p.1 = f then (p.1, c) else p).1 : Key), PyData.int (if p.1 = f then (p.1, c) else p).2)
      rw [if_pos e]
    · rw [if_neg (fun z => e (Sum.inl.inj z))]
      show _ = ((Sum.inl (if p.1 = f then (p.1, c) else p).1 : Key), PyData.int (if p.1 = f then (p.1, c) else p).2)
      rw [if_neg e]
  · rw [if_neg h, if_neg h]
    unfold enc
    rw [List.map_append]; rfl
theorem has_lk (L : CL) (f : Int) : (lk L f).isSome = has L f := by
  unfold lk has
  rw [Option.isSome_map]
  induction L with
  | nil => rfl
  | cons p L ih =>
    rw [List.find?_cons, List.any_cons]
    by_cases h : p.1 = f
    · rw [decide_eq_true h]; rfl
    · rw [decide_eq_false h, Bool.false_or]; exact ih
theorem enc_len (L : CL) : (enc L).length = L.length := by unfold enc; rw [List.length_map]
theorem has_mem {L : CL} {f : Int} : has L f = true ↔ f ∈ L.map (·.1) := by
  unfold has
  rw [List.any_eq_true, List.mem_map]
  constructor
  · rintro ⟨p, h, e⟩; exact ⟨p, h, of_decide_eq_true e⟩
  · rintro ⟨p, h, e⟩; exact ⟨p, h, decide_eq_true e⟩
theorem put_nd {L : CL} {f c : Int} (h : nd L) : nd (put L f c) := by
  unfold nd put at *
  by_cases hh : has L f = true
  · rw [if_pos hh]
    have : (L.map fun p => if p.1 = f then (p.1, c) else p).map (·.1) = L.map (·.1) := by
      rw [List.map_map]
      refine List.map_congr_left fun p _ => ?_
      show (if p.1 = f then (p.1, c) else p).1 = p.1
      split <;> rfl
    rw [this]; exact h
  · rw [if_neg hh, List.map_append, List.nodup_append]
    refine ⟨h, by simp, fun a ha b hb e => hh ?_⟩
    have : b = f := by simpa using hb
    subst this; subst e
    exact has_mem.mpr ha
theorem dec_nd {L : CL} (h : nd L) : nd (dec L) := by
  unfold nd dec at *
  rw [List.map_map]
  exact h.sublist ((List.filter_sublist (l := L)).map _)
theorem put_len (L : CL) (f c : Int) : (put L f c).length = if has L f = true then L.length else L.length + 1 := by
  unfold put
  split <;> simp
theorem dec_len (L : CL) : (dec L).length ≤ L.length := by
  unfold dec; rw [List.length_map]; exact List.length_filter_le _ _
theorem mem_lk {L : CL} (h : nd L) {p : Int × Int} (hp : p ∈ L) : lk L p.1 = some p.2 := by
  unfold lk nd at *
  induction L with
  | nil => simp at hp
  | cons q L ih =>
    rw [List.map_cons, List.nodup_cons] at h
    rw [List.find?_cons]
    rcases List.mem_cons.mp hp with e | hp
    · subst e; simp
    · have : ¬ q.1 = p.1 := fun e => h.1 (e ▸ List.mem_map_of_mem hp)
      rw [decide_eq_false this]
      exact ih h.2 hp
/-- new keys are put behind -/
theorem fold_put : ∀ (M acc : CL), nd (acc ++ M) → (enc M).foldl (fun a kv => putD a kv.1 kv.2) (enc acc) = enc (acc ++ M)
  | [], acc, _ => by rw [List.append_nil]; rfl
  | p :: M, acc, h => by
    have h1 : has acc p.1 = false := by
      cases e : has acc p.1 with
      | false => rfl
      | true =>
        have := has_mem.mp e
        unfold nd at h
        rw [List.map_append, List.nodup_append] at h
        exact absurd rfl (h.2.2 _ this _ (by simp))
    show (enc M).foldl _ (putD (enc acc) (.inl p.1) (.int p.2)) = _
    rw [put_enc]
    unfold put
    rw [h1, if_neg Bool.false_ne_true, fold_put M (acc ++ [(p.1, p.2)]) (by rw [List.append_assoc]; exact h), List.append_assoc]
    rfl
end G66
set_option maxHeartbeats 1000000
/-! P66c: told_counters run. -/
namespace G66
open PySem PySem.Spec PyProof.Rows L2 Pv
@[simp] theorem ap0 {α : Type} {S : List α} {x : α} : (S ++ [x])[S.length]? = some x := by simp
@[simp] theorem st0 {α : Type} {S : List α} {x y : α} : (S ++ [x]).set S.length y = S ++ [y] := by simp
theorem key_int (f : Int) : keyOf (.int f) = some (.inl f) := rfl
/-- the slots while the flows are walked -/
abbrev tcE (many : Int) (fl : List D) (n : Nat) (less : Int) (lv : Option T) : Pv.Env := [some (.p (.int many)), some (.p (.tuple fl)), some (.loc n), some (.p (.int less)), lv, none]
theorem tc_test (S : Sto) (many : Int) (fl : List D) (L : CL) (less f : Int) : orT (asT (dinF false (varF 4) (varF 2))) (asT (binF ltI (argF lenT (consF (varF 2) nilF)) (varF 0))) (tcE many fl S.length less (some (.p (.int f)))) (S ++ [.dic (enc L)])
    = some (decide (has L f = true ∨ (L.length : Int) < many), S ++ [.dic (enc L)]) := by
  have h1 := e_din1 (b := false) (S := S ++ [.dic (enc L)]) (i := S.length) (dictOf_dic ap0) (key_int f)
  have h2 := e_lenD (S := S ++ [.dic (enc L)]) (i := S.length) ap0
  rw [val_enc, Option.isSome_map, has_lk] at h1
  rw [enc_len] at h2
  by_cases h : has L f = true
  · simp [h1, h]
  · have h' : has L f = false := by simpa using h
    simp [h1, h2, h']
theorem tc_inc (S : Sto) (many : Int) (fl : List D) (L : CL) (less f : Int) (n : Nat) (hz : L.length < 100000) : dputS (varF 2) (varF 4) (binF addT (dgetxF (varF 2) (varF 4) (conF (.int 0))) (conF (.int 1))) n (tcE many fl S.length less (some (.p (.int f)))) (S ++ [.dic (enc L)])
    = some (.nx, tcE many fl S.length less (some (.p (.int f))), S ++ [.dic (enc (put L f ((lk L f).getD 0 + 1)))]) := by
  have h0 := dictOf_dic (S := S ++ [.dic (enc L)]) (i := S.length) ap0
  have h1 := e_dgetx0 (fi := varF 4) (fx := conF (.int 0)) (env := tcE many fl S.length less (some (.p (.int f)))) h0
  have h2 := e_dgetx2 (v := .p (.int 0)) h0 (key_int f)
  rw [val_enc] at h2
  have h3 : ∀ c, dputK2 (tcE many fl S.length less (some (.p (.int f)))) (S.length + 1) (.p (.int c)) (.loc S.length) (.p (.int f), S ++ [.dic (enc L)]) = some (.nx, tcE many fl S.length less (some (.p (.int f))), S ++ [.dic (enc (put L f c))]) := fun c => by
    rw [s_dput2 (kvs := enc L) ap0 (key_int f) (by rw [enc_len, sizeLine_eq]; omega), put_enc, st0, tk1]
  cases e : lk L f with
  | none =>
    rw [e] at h2
    simp [h1, h2, h3]
  | some c =>
    rw [e] at h2
    simp [h1, h2, h3]
theorem dec_list (L : CL) : ∀ M : CL, (∀ p ∈ M, lk L p.1 = some p.2) → ((((enc M).map fun z => dK z.1).filter fun x => match x with | .int k => decide (1 < (lk L k).getD 0) | _ => false).map fun x => ((match x with | .int k => (.inl k : Key) | _ => .inl 0), (match x with | .int k => PyData.int ((lk L k).getD 0 - 1) | _ => .none))) = enc (dec M)
  | [], _ => rfl
  | p :: M, h => by
    have ih := dec_list L M fun q hq => h q (List.mem_cons_of_mem _ hq)
    have hp := h p List.mem_cons_self
    show (((dK (.inl p.1) :: (enc M).map fun z => dK z.1).filter _).map _) = enc (dec (p :: M))
    rw [List.filter_cons]
    unfold dec
    rw [List.filter_cons]
    simp only [dK, hp, Option.getD_some]
    by_cases h1 : 1 < p.2
    · rw [decide_eq_true h1, if_pos rfl, if_pos rfl, List.map_cons, List.map_cons]
      show _ = ((Sum.inl p.1 : Key), PyData.int (p.2 - 1)) :: enc (dec M)
      rw [← ih]
      simp only [hp, Option.getD_some]
      rfl
    · rw [decide_eq_false h1, if_neg Bool.false_ne_true, if_neg Bool.false_ne_true]
      exact ih
/-- the dict comprehension: what is more than one, one less -/
theorem tc_dec (S : Sto) (many : Int) (fl : List D) (L : CL) (less f : Int) (hz : L.length < 50000) (hn : nd L) : lockF 2 (dcF (keysI (varF 2)) (nameG 5) (asT (binF gtI (dgetF (varF 2) (varF 5)) (conF (.int 1)))) (varF 5) (binF subI (dgetF (varF 2) (varF 5)) (conF (.int 1))) [5]) (tcE many fl S.length less (some (.p (.int f)))) (S ++ [.dic (enc L)])
    = some (.loc (S.length + 1), S ++ [.dic (enc L), .dic (enc (dec L))]) := by
  have lkd : ∀ (acc : KD), (S ++ [O.lck (enc L)] ++ [O.dic acc])[S.length]? = some (.lck (enc L)) := fun acc => by simp
  have key : dcGo (nameG 5) (asT (binF gtI (dgetF (varF 2) (varF 5)) (conF (.int 1)))) (varF 5) (binF subI (dgetF (varF 2) (varF 5)) (conF (.int 1))) (wipeE (tcE many fl S.length less (some (.p (.int f)))) [5]) (S ++ [O.lck (enc L)]).length [(S.length, .lck (enc L))] ((enc L).map fun z => dK z.1) [] (S ++ [O.lck (enc L)])
      = some (enc (dec L), S ++ [O.lck (enc L)]) := by
    have hgd : GdOk [(S.length, O.lck (enc L))] (S ++ [O.lck (enc L)]) := fun p hp => by
      have : p = (S.length, O.lck (enc L)) := by simpa using hp
      subst this; simp
    have := dc_pure (gf := nameG 5) (ft := asT (binF gtI (dgetF (varF 2) (varF 5)) (conF (.int 1)))) (fk := varF 5) (fv := binF subI (dgetF (varF 2) (varF 5)) (conF (.int 1))) (env := wipeE (tcE many fl S.length less (some (.p (.int f)))) [5]) (m := (S ++ [O.lck (enc L)]).length)
      (fun x => match x with | .int k => decide (1 < (lk L k).getD 0) | _ => false) (fun x => match x with | .int k => .inl k | _ => .inl 0) (fun x => match x with | .int k => .int ((lk L k).getD 0 - 1) | _ => .none) rfl hgd ((enc L).map fun z => dK z.1) [] (by simp [enc_len]; omega) (fun x acc hx => by
        obtain ⟨z, hz, rfl⟩ := List.mem_map.mp hx
        obtain ⟨p, hp, rfl⟩ := List.mem_map.mp hz
        have hl := mem_lk hn hp
        refine ⟨tcE many fl S.length less (some (.p (.int f))) |>.set 5 (some (.p (.int p.1))), rfl, ?_, fun _ => ?_⟩
        · have h0 := dictOf_lck (lkd acc)
          have h1 := e_dget1 (d := .int p.1) h0 (key_int p.1)
          rw [val_enc, hl] at h1
          simp only [List.append_assoc, List.singleton_append, List.cons_append, List.nil_append] at h1
          simp [dK, h1, hl]
        · have h0 := dictOf_lck (lkd acc)
          have h1 := e_dget1 (d := .int p.1) h0 (key_int p.1)
          rw [val_enc, hl] at h1
          simp only [List.append_assoc, List.singleton_append, List.cons_append, List.nil_append] at h1
          simp [dK, h1, hl])
    rw [this, dec_list L L fun p hp => mem_lk hn hp]
    have := fold_put (dec L) [] (by simpa using dec_nd hn)
    rw [show enc ([] : CL) = [] from rfl, List.nil_append] at this
    rw [this]
  have hb : dcF (keysI (varF 2)) (nameG 5) (asT (binF gtI (dgetF (varF 2) (varF 5)) (conF (.int 1)))) (varF 5) (binF subI (dgetF (varF 2) (varF 5)) (conF (.int 1))) [5] (tcE many fl S.length less (some (.p (.int f)))) (S ++ [O.lck (enc L)]) = some (.loc (S.length + 1), S ++ [O.lck (enc L), O.dic (enc (dec L))]) := by
    have hk := i_keysK (S := S ++ [O.lck (enc L)]) (i := S.length) (kvs := enc L) ap0
    rw [e_dc, i_keys]
    rw [show varF 2 (tcE many fl S.length less (some (.p (.int f)))) (S ++ [O.lck (enc L)]) = some (.loc S.length, S ++ [O.lck (enc L)]) by simp, Option.bind_some, hk, Option.bind_some, e_dc1 key]
    simp
  have := e_lock (i := 2) (j := S.length) (env := tcE many fl S.length less (some (.p (.int f)))) (S := S ++ [O.dic (enc L)]) (kvs := enc L) rfl ap0 (by rw [st0]; exact hb) (by simp)
  rw [this]
  simp
end G66
set_option maxHeartbeats 1000000
/-! P66d: told_counters, whole. -/
namespace G66
open PySem PySem.Spec PyProof.Rows L2 Pv
theorem tc_set (S : Sto) (many : Int) (fl : List D) (L : CL) (less f : Int) (hz : L.length < 50000) (hn : nd L) : setS 2 (lockF 2 (dcF (keysI (varF 2)) (nameG 5) (asT (binF gtI (dgetF (varF 2) (varF 5)) (conF (.int 1)))) (varF 5) (binF subI (dgetF (varF 2) (varF 5)) (conF (.int 1))) [5])) S.length (tcE many fl S.length less (some (.p (.int f)))) (S ++ [.dic (enc L)])
    = some (.nx, tcE many fl S.length less (some (.p (.int f))), S ++ [.dic (enc (dec L))]) := by
  rw [s_set, tc_dec S many fl L less f hz hn, Option.bind_some, s_set1]
  have e0 : (S ++ [O.dic (enc L)]).length = S.length + 1 := by simp
  have g := gc_new (S := S ++ [O.dic (enc L)]) (m := S.length + 1) (o := .dic (enc (dec L))) e0
  rw [List.append_assoc, List.singleton_append] at g
  rw [e0, g, Option.map_some, s_set2l]
  have hl : lone 2 S.length (tcE many fl S.length less (some (.p (.int f)))) = true := by
    simp [lone, noLoc, List.range_succ]
  unfold putLoc
  simp [hl]
theorem tc_aug (S : Sto) (n : Nat) (many : Int) (fl : List D) (less f : Int) (k : Nat) : augS 3 (iop fun i j => some (.int (i + j))) (conF (.int 1)) n (tcE many fl k less (some (.p (.int f)))) S
    = some (.nx, tcE many fl k (less + 1) (some (.p (.int f))), S) := by
  simp [augS]
  rfl
noncomputable def tcB : SF := ifS (orT (asT (dinF false (varF 4) (varF 2))) (asT (binF ltI (argF lenT (consF (varF 2) nilF)) (varF 0)))) (dputS (varF 2) (varF 4) (binF addT (dgetxF (varF 2) (varF 4) (conF (.int 0))) (conF (.int 1)))) (seqS (setS 2 (lockF 2 (dcF (keysI (varF 2)) (nameG 5) (asT (binF gtI (dgetF (varF 2) (varF 5)) (conF (.int 1)))) (varF 5) (binF subI (dgetF (varF 2) (varF 5)) (conF (.int 1))) [5]))) (augS 3 (iop fun i j => some (.int (i + j))) (conF (.int 1))))
theorem tc_body (S : Sto) (many : Int) (fl : List D) (s : CL × Int) (f : Int) (hz : s.1.length < 50000) (hn : nd s.1) : tcB S.length (tcE many fl S.length s.2 (some (.p (.int f)))) (S ++ [.dic (enc s.1)])
    = some (.nx, tcE many fl S.length (mgStep many s f).2 (some (.p (.int f))), S ++ [.dic (enc (mgStep many s f).1)]) := by
  have ht := tc_test S many fl s.1 s.2 f
  have tk : (S ++ [O.dic (enc s.1)]).take (S ++ [O.dic (enc s.1)]).length = S ++ [O.dic (enc s.1)] := List.take_length
  by_cases h : has s.1 f = true ∨ (s.1.length : Int) < many
  · rw [decide_eq_true h] at ht
    refine if_go1 ht ?_
    rw [tk]
    have e : mgStep many s f = (put s.1 f ((lk s.1 f).getD 0 + 1), s.2) := if_pos h
    rw [e]
    exact tc_inc S many fl s.1 s.2 f _ (by omega)
  · rw [decide_eq_false h] at ht
    refine if_go0 ht ?_
    rw [tk]
    have e : mgStep many s f = (dec s.1, s.2 + 1) := if_neg h
    rw [e]
    exact seq_go (tc_set S many fl s.1 s.2 f hz hn) (tc_aug _ _ many fl s.2 f _)
theorem step_nd {many : Int} {s : CL × Int} {f : Int} (h : nd s.1) : nd (mgStep many s f).1 := by
  unfold mgStep
  split
  · exact put_nd h
  · exact dec_nd h
theorem step_len {many : Int} {s : CL × Int} {f : Int} : (mgStep many s f).1.length ≤ s.1.length + 1 := by
  unfold mgStep
  split
  · rw [put_len]; split <;> omega
  · have := dec_len s.1
    show (dec s.1).length ≤ _
    omega
theorem mg_take {many : Int} {fs : List Int} {i : Nat} {f : Int} (h : fs[i]? = some f) : mg many (fs.take (i + 1)) = mgStep many (mg many (fs.take i)) f := by
  unfold mg
  rw [List.take_succ, h, List.foldl_append]; rfl
theorem mg_inv (many : Int) : ∀ (fs : List Int), nd (mg many fs).1 ∧ (mg many fs).1.length ≤ fs.length := by
  suffices H : ∀ (fs : List Int) (s : CL × Int), nd s.1 → nd (fs.foldl (mgStep many) s).1 ∧ (fs.foldl (mgStep many) s).1.length ≤ s.1.length + fs.length by
    intro fs
    have := H fs ([], 0) List.nodup_nil
    have h := this.2
    simp only [List.length_nil, Nat.zero_add] at h
    exact ⟨this.1, h⟩
  intro fs
  induction fs with
  | nil => exact fun s h => ⟨h, by simp⟩
  | cons f fs ih =>
    intro s h
    obtain ⟨h1, h2⟩ := ih (mgStep many s f) (step_nd h)
    refine ⟨h1, ?_⟩
    have := step_len (many := many) (s := s) (f := f)
    rw [List.foldl_cons, List.length_cons]
    omega
theorem r_told (S : Sto) (many : Int) (fs : List Int) (hf : fs.length ≤ 40000) : m_told_counters [.p (.int many), .p (.tuple (fs.map PyData.int))] S = some (.mix [.loc S.length, .p (.int (mg many fs).2)], S ++ [.dic (enc (mg many fs).1)]) := by
  have keep : ∀ (less : Int) (lv : Option T), (∀ t, lv = some t → ∃ f, t = .p (.int f)) → ∀ m, S.length < m → forget m (tcE many (fs.map PyData.int) S.length less lv) = tcE many (fs.map PyData.int) S.length less lv := fun less lv hlv m hm => by
    cases lv with
    | none => simp [forget, keepSlot, below, hm]
    | some t =>
      obtain ⟨f, rfl⟩ := hlv t rfl
      simp [forget, keepSlot, below, hm]
  have e0 : (S ++ [O.dic (enc [])]).length = S.length + 1 := by simp
  obtain ⟨env', S', e1, hS, lv, hlv, henv⟩ := loop_inv (gf := nameG 4) (sb := tcB) (n := S.length) (m := S.length + 1) (gd := [])
    (fun i env S2 => S2 = S ++ [.dic (enc (mg many (fs.take i)).1)] ∧ ∃ lv : Option T, (∀ t, lv = some t → ∃ f, t = .p (.int f)) ∧ env = tcE many (fs.map PyData.int) S.length (mg many (fs.take i)).2 lv)
    (fun _ _ _ _ => gd_nil) (fs.map PyData.int) 0 (tcE many (fs.map PyData.int) S.length 0 none) (S ++ [.dic (enc [])])
    ⟨rfl, none, fun t h => by simp at h, rfl⟩ (fun j x env S2 hx ⟨h1, lv, hlv, h5⟩ => by
      rw [List.getElem?_map] at hx
      obtain ⟨f, hf2, rfl⟩ := Option.map_eq_some_iff.mp hx
      rw [Nat.zero_add] at h1 h5 ⊢
      subst h1 h5
      obtain ⟨i1, i2⟩ := mg_inv many (fs.take j)
      have hj := (List.getElem?_eq_some_iff.mp hf2).1
      have l9 : (fs.take j).length ≤ 40000 := by rw [List.length_take]; omega
      refine ⟨tcE many (fs.map PyData.int) S.length (mg many (fs.take j)).2 (some (.p (.int f))), _, _, _, rfl, tc_body S many _ (mg many (fs.take j)) f (by omega) i1, ?_, some (.p (.int f)), fun t e => ⟨f, (Option.some.inj e).symm⟩, ?_⟩
      · rw [mg_take hf2]
        exact List.take_of_length_le (by simp)
      · rw [keep _ _ (fun t e => ⟨f, (Option.some.inj e).symm⟩) _ (Nat.lt_succ_self _), mg_take hf2])
  subst hS henv
  rw [Nat.zero_add, List.length_map, List.take_length] at e1
  have b1 : asgS (tupF (consF dnewF (consF (conF (.int 0)) nilF))) (tupG 2 (consG (nameG 2) (consG (nameG 3) nilG))) S.length [some (.p (.int many)), some (.p (.tuple (fs.map PyData.int))), none, none, none, none] S = some (.nx, tcE many (fs.map PyData.int) S.length 0 none, S ++ [.dic (enc [])]) := by
    simp [tupT, allP, gcV, gcTs, gcT, gcOb, enc]
  have b2 : forS (tupI (varF 1)) (nameG 4) tcB S.length (tcE many (fs.map PyData.int) S.length 0 none) (S ++ [.dic (enc [])]) = some (.nx, tcE many (fs.map PyData.int) S.length (mg many fs).2 lv, S ++ [.dic (enc (mg many fs).1)]) := by
    have hi : tupI (varF 1) (tcE many (fs.map PyData.int) S.length 0 none) (S ++ [.dic (enc [])]) = some (fs.map PyData.int, [], S ++ [.dic (enc [])]) := by simp
    rw [s_for_run hi e0 e1, e0, keep _ lv hlv _ (Nat.lt_succ_self _), List.take_of_length_le (by simp)]
  have b3 : retS (tupF (consF (varF 2) (consF (varF 3) nilF))) S.length (tcE many (fs.map PyData.int) S.length (mg many fs).2 lv) (S ++ [.dic (enc (mg many fs).1)]) = some (.rt (.mix [.loc S.length, .p (.int (mg many fs).2)]), tcE many (fs.map PyData.int) S.length (mg many fs).2 lv, S ++ [.dic (enc (mg many fs).1)]) := by
    refine ret_go ?_
    simp [tupT, allP]
  refine m_ret (show seqS _ (seqS (forS (tupI (varF 1)) (nameG 4) tcB) _) _ _ _ = _ from seq_go b1 (seq_go b2 b3)) ?_
  simp [gcV, gcTs, gcT, gcOb]
end G66
set_option maxHeartbeats 1000000
/-! P66e: counters, the other copy, the checks. -/
namespace G66
open PySem PySem.Spec PyProof.Rows L2 Pv
theorem r_many (S : Sto) (many : Int) (h1 : 1 ≤ many) (h2 : many ≤ 20) : m_look_at_many [.p (.int many)] S = some (.p .none, S) := by
  have e := r_is_int many 1 20 S
  rw [decide_eq_true h1, decide_eq_true h2] at e
  have e' : m_look_at_many [.p (.int many)] S = some (.p .none, (S.take S.length).take S.length) := by
    refine m_end (env' := [some (.p (.int many))]) (S' := S.take S.length) ?_
    show ifS _ noneS nextS _ [some (.p (.int many))] S = _
    refine if_go0 (S' := S) ?_ (by simp)
    simp [e]
  rw [e', List.take_length, List.take_length]
theorem isint_b (k lo hi : Int) (h1 : lo ≤ k) (h2 : k ≤ hi) (S : Sto) : m_is_int [.p (.int k), .p (.int lo), .p (.int hi)] S = some (.p (.bool true), S) := by
  rw [r_is_int, decide_eq_true h1, decide_eq_true h2]; rfl
theorem all_true : ∀ (n : Nat), (List.replicate n true).all id = true
  | 0 => rfl
  | n + 1 => by rw [List.replicate_succ, List.all_cons, all_true n]; rfl
theorem const_map {α β : Type} (c : β) : ∀ l : List α, (l.filter fun _ => true).map (fun _ => c) = List.replicate l.length c
  | [] => rfl
  | x :: l => by rw [List.filter_cons, if_pos rfl, List.map_cons, const_map c l]; rfl
theorem r_areflows (S : Sto) (fs : List Int) (hl : fs.length ≤ 500) (h : ∀ f ∈ fs, 0 ≤ f ∧ f ≤ 1000) : m_are_flows [.p (.tuple (fs.map PyData.int))] S = some (.p (.bool true), S) := by
  have hc : lcGo (nameG 1) yesT (callF 3 m_is_int (consF (varF 1) (consF (conF (.int 0)) (consF (conF (.int 1000)) nilF)))) (wipeE [some (.p (.tuple (fs.map PyData.int))), none] [1]) S.length [] (fs.map PyData.int) [] S = some (List.replicate fs.length (.bool true), S) := by
    rw [lc_pure (fun _ => true) (fun _ => .bool true) rfl gd_nil (fs.map PyData.int) [] (by simp; omega) (fun x acc hx => by
      obtain ⟨f, hf, rfl⟩ := List.mem_map.mp hx
      refine ⟨[some (.p (.tuple (fs.map PyData.int))), some (.p (.int f))], rfl, rfl, fun _ => ?_⟩
      have e := isint_b f 0 1000 (h f hf).1 (h f hf).2 (S ++ [.lst acc])
      simp [e])]
    rw [List.nil_append, const_map, List.length_map]
  have hall : (argF (allT false) (consF (lcF (tupI (varF 0)) (nameG 1) yesT (callF 3 m_is_int (consF (varF 1) (consF (conF (.int 0)) (consF (conF (.int 1000)) nilF)))) [1]) nilF)) [some (.p (.tuple (fs.map PyData.int))), none] S = some (.p (.bool true), S ++ [.lst (List.replicate fs.length (.bool true))]) := by
    have h9 := e_allL (b := false) (S := S ++ [.lst (List.replicate fs.length (PyData.bool true))]) (i := S.length) (bs := List.replicate fs.length true) (by simp)
    rw [if_neg Bool.false_ne_true, all_true] at h9
    rw [e_arg, e_cons, e_lc, i_tup]
    rw [show varF 0 [some (.p (.tuple (fs.map PyData.int))), none] S = some (.p (.tuple (fs.map PyData.int)), S) by simp, Option.bind_some, i_tupK, Option.bind_some, e_lc1 hc, Option.bind_some]
    simp [h9]
  refine m_ret (r := .p (.bool true)) (env' := [some (.p (.tuple (fs.map PyData.int))), none]) (S' := S ++ [.lst (List.replicate fs.length (.bool true))]) ?_ (by simp)
  show retS (andF _ (andF _ _)) _ [some (.p (.tuple (fs.map PyData.int))), none] S = _
  refine ret_go ?_
  have hl' : ((fs.length : Nat) : Int) ≤ 500 := by omega
  simp only [e_and]
  rw [show isiF "tuple" (varF 0) [some (.p (.tuple (fs.map PyData.int))), none] S = some (.p (.bool true), S) by simp, Option.bind_some, e_and1 rfl, e_and]
  rw [show binF leI (argF lenT (consF (varF 0) nilF)) (conF (.int 500)) [some (.p (.tuple (fs.map PyData.int))), none] S = some (.p (.bool true), S) by simp [hl'], Option.bind_some, e_and1 rfl]
  exact hall
theorem r_flows (S : Sto) (fs : List Int) (hl : fs.length ≤ 500) (h : ∀ f ∈ fs, 0 ≤ f ∧ f ≤ 1000) : m_look_at_flows [.p (.tuple (fs.map PyData.int))] S = some (.p .none, S) := by
  have e := r_areflows S fs hl h
  have e' : m_look_at_flows [.p (.tuple (fs.map PyData.int))] S = some (.p .none, (S.take S.length).take S.length) := by
    refine m_end (env' := [some (.p (.tuple (fs.map PyData.int)))]) (S' := S.take S.length) ?_
    show ifS _ noneS nextS _ [some (.p (.tuple (fs.map PyData.int)))] S = _
    refine if_go0 (S' := S) ?_ (by simp)
    simp [e]
  rw [e', List.take_length, List.take_length]
theorem items_enc (L : CL) : itemsD (enc L) = L.map pairI := by
  unfold itemsD enc
  rw [List.map_map]; rfl
theorem sortD_pairs' (L : CL) : sortD (L.map pairI) = some ((sortP L).map pairI) := by
  cases L with
  | nil => simp [sortD, intsOf, sortI, sortP]
  | cons p L => exact sortD_pairs _ (by simp)
theorem r_counters (S : Sto) (many : Int) (fs : List Int) (h1 : 1 ≤ many) (h2 : many ≤ 20) (hl : fs.length ≤ 500) (h : ∀ f ∈ fs, 0 ≤ f ∧ f ≤ 1000) :
    m_counters [.p (.int many), .p (.tuple (fs.map PyData.int))] S = some (.mix [.ft ((sortP (mg many fs).1).map pairI), .p (.int (mg many fs).2)], S) := by
  have a1 := r_many S many h1 h2
  have a2 := r_flows S fs hl h
  have a3 := r_told S many fs (by omega)
  have b1 : exprS (callF 1 m_look_at_many (consF (varF 0) nilF)) S.length [some (.p (.int many)), some (.p (.tuple (fs.map PyData.int))), none, none] S = some (.nx, [some (.p (.int many)), some (.p (.tuple (fs.map PyData.int))), none, none], S) := by simp [a1]
  have b2 : exprS (callF 1 m_look_at_flows (consF (varF 1) nilF)) S.length [some (.p (.int many)), some (.p (.tuple (fs.map PyData.int))), none, none] S = some (.nx, [some (.p (.int many)), some (.p (.tuple (fs.map PyData.int))), none, none], S) := by simp [a2]
  have b3 : asgS (callF 2 m_told_counters (consF (varF 0) (consF (varF 1) nilF))) (tupG 2 (consG (nameG 2) (consG (nameG 3) nilG))) S.length [some (.p (.int many)), some (.p (.tuple (fs.map PyData.int))), none, none] S
      = some (.nx, [some (.p (.int many)), some (.p (.tuple (fs.map PyData.int))), some (.loc S.length), some (.p (.int (mg many fs).2))], S ++ [.dic (enc (mg many fs).1)]) := by
    simp [a3, gcV, gcTs, gcT, gcOb]
  have b4 : sortedIF (varF 2) [some (.p (.int many)), some (.p (.tuple (fs.map PyData.int))), some (.loc S.length), some (.p (.int (mg many fs).2))] (S ++ [.dic (enc (mg many fs).1)]) = some (.loc (S.length + 1), S ++ [.dic (enc (mg many fs).1), .lst ((sortP (mg many fs).1).map pairI)]) := by
    have hd := dictOf_dic (S := S ++ [O.dic (enc (mg many fs).1)]) (i := S.length) ap0
    unfold sortedIF
    rw [show varF 2 [some (.p (.int many)), some (.p (.tuple (fs.map PyData.int))), some (.loc S.length), some (.p (.int (mg many fs).2))] (S ++ [O.dic (enc (mg many fs).1)]) = some (.loc S.length, S ++ [O.dic (enc (mg many fs).1)]) by simp, Option.bind_some]
    simp only [hd, Option.bind_some, items_enc, sortD_pairs', Option.map_some]
    simp
  have b5 : retS (tupF (consF (argF tupleFT (consF (sortedIF (varF 2)) nilF)) (consF (rawF 3) nilF))) S.length [some (.p (.int many)), some (.p (.tuple (fs.map PyData.int))), some (.loc S.length), some (.p (.int (mg many fs).2))] (S ++ [.dic (enc (mg many fs).1)])
      = some (.rt (.mix [.ft ((sortP (mg many fs).1).map pairI), .p (.int (mg many fs).2)]), [some (.p (.int many)), some (.p (.tuple (fs.map PyData.int))), some (.loc S.length), some (.p (.int (mg many fs).2))], S ++ [.dic (enc (mg many fs).1), .lst ((sortP (mg many fs).1).map pairI)]) := by
    refine ret_go ?_
    have h9 := e_tupleF (S := S ++ [O.dic (enc (mg many fs).1), O.lst ((sortP (mg many fs).1).map pairI)]) (i := S.length + 1) (ds := (sortP (mg many fs).1).map pairI) (by simp)
    simp [b4, h9, tupT, allP]
  refine m_ret (show seqS _ (seqS _ (seqS _ _)) _ _ _ = _ from seq_go b1 (seq_go b2 (seq_go b3 b5))) ?_
  simp [gcV, gcTs, gcT, gcOb]
end G66
set_option maxHeartbeats 1000000
/-! P66f: the law's own counters. -/
namespace G66
open PySem PySem.Spec PyProof.Rows L2 Pv
/-- a row of pairs of what is in a locked dict: what passes, by the value -/
theorem lk_rows (L : CL) (p : Int → Bool) (g : Int → Int) : ∀ M : CL, (∀ q ∈ M, lk L q.1 = some q.2) → ((((enc M).map fun z => dK z.1).filter fun x => match x with | .int k => p ((lk L k).getD 0) | _ => false).map fun x => (match x with | .int k => PyData.tuple [.int k, .int (g ((lk L k).getD 0))] | _ => .none)) = ((M.filter fun q => p q.2).map fun q => pairI (q.1, g q.2))
  | [], _ => rfl
  | q :: M, h => by
    have ih := lk_rows L p g M fun r hr => h r (List.mem_cons_of_mem _ hr)
    have hp := h q List.mem_cons_self
    show (((dK (.inl q.1) :: (enc M).map fun z => dK z.1).filter _).map _) = _
    rw [List.filter_cons, List.filter_cons]
    simp only [dK, hp, Option.getD_some]
    cases h1 : p q.2 with
    | true =>
      rw [if_pos rfl, if_pos rfl, List.map_cons, List.map_cons, ← ih]
      simp only [hp, Option.getD_some]
      rfl
    | false =>
      rw [if_neg Bool.false_ne_true, if_neg Bool.false_ne_true]
      exact ih
/-- [(one, f(d[one])) for one in d if p(d[one])], d in slot 2 of the own counters' def -/
theorem go_rows (S : Sto) (many : Int) (fl : List D) (L : CL) (less : Int) (lv : Option T) (hz : L.length < 50000) (hn : nd L) (ft : TF) (fe : EF) (p : Int → Bool) (g : Int → Int)
    (hft : ∀ (k c : Int) (acc : List D), lk L k = some c → ft [some (.p (.int many)), some (.p (.tuple fl)), some (.loc S.length), some (.p (.int less)), lv, some (.p (.int k))] (S ++ [.lck (enc L), .lst acc]) = some (p c, S ++ [.lck (enc L), .lst acc]))
    (hfe : ∀ (k c : Int) (acc : List D), lk L k = some c → fe [some (.p (.int many)), some (.p (.tuple fl)), some (.loc S.length), some (.p (.int less)), lv, some (.p (.int k))] (S ++ [.lck (enc L), .lst acc]) = some (.p (.tuple [.int k, .int (g c)]), S ++ [.lck (enc L), .lst acc])) :
    lockF 2 (lcF (keysI (varF 2)) (nameG 5) ft fe [5]) (tcE many fl S.length less lv) (S ++ [.dic (enc L)]) = some (.loc (S.length + 1), S ++ [.dic (enc L), .lst ((L.filter fun q => p q.2).map fun q => pairI (q.1, g q.2))]) := by
  have key : lcGo (nameG 5) ft fe (wipeE (tcE many fl S.length less lv) [5]) (S ++ [O.lck (enc L)]).length [(S.length, .lck (enc L))] ((enc L).map fun z => dK z.1) [] (S ++ [O.lck (enc L)])
      = some ((L.filter fun q => p q.2).map fun q => pairI (q.1, g q.2), S ++ [O.lck (enc L)]) := by
    have hgd : GdOk [(S.length, O.lck (enc L))] (S ++ [O.lck (enc L)]) := fun p hp => by
      have : p = (S.length, O.lck (enc L)) := by simpa using hp
      subst this; simp
    rw [lc_pure (fun x => match x with | .int k => p ((lk L k).getD 0) | _ => false) (fun x => match x with | .int k => .tuple [.int k, .int (g ((lk L k).getD 0))] | _ => .none) rfl hgd ((enc L).map fun z => dK z.1) [] (by simp [enc_len]; omega) (fun x acc hx => by
        obtain ⟨z, hz, rfl⟩ := List.mem_map.mp hx
        obtain ⟨q, hq, rfl⟩ := List.mem_map.mp hz
        have hl := mem_lk hn hq
        have eS : S ++ [O.lck (enc L)] ++ [O.lst acc] = S ++ [O.lck (enc L), O.lst acc] := by simp
        rw [eS]
        refine ⟨[some (.p (.int many)), some (.p (.tuple fl)), some (.loc S.length), some (.p (.int less)), lv, some (.p (.int q.1))], rfl, ?_, fun _ => ?_⟩
        · have := hft q.1 q.2 acc hl
          simpa [dK, hl] using this
        · have := hfe q.1 q.2 acc hl
          simpa [dK, hl] using this)]
    rw [List.nil_append, lk_rows L p g L fun q hq => mem_lk hn hq]
  have hb : lcF (keysI (varF 2)) (nameG 5) ft fe [5] (tcE many fl S.length less lv) (S ++ [O.lck (enc L)]) = some (.loc (S.length + 1), S ++ [O.lck (enc L), O.lst ((L.filter fun q => p q.2).map fun q => pairI (q.1, g q.2))]) := by
    have hk := i_keysK (S := S ++ [O.lck (enc L)]) (i := S.length) (kvs := enc L) ap0
    rw [e_lc, i_keys]
    rw [show varF 2 (tcE many fl S.length less lv) (S ++ [O.lck (enc L)]) = some (.loc S.length, S ++ [O.lck (enc L)]) by simp, Option.bind_some, hk, Option.bind_some, e_lc1 key]
    simp
  have := e_lock (i := 2) (j := S.length) (env := tcE many fl S.length less lv) (S := S ++ [O.dic (enc L)]) (kvs := enc L) rfl ap0 (by rw [st0]; exact hb) (by simp)
  rw [this]
  simp
end G66
set_option maxHeartbeats 1000000
/-! P66g: the law's own counters, whole. -/
namespace G66
open PySem PySem.Spec PyProof.Rows L2 Pv
theorem pairsOf_enc : ∀ M : CL, pairsOf (M.map pairI) = some (enc M)
  | [] => rfl
  | q :: M => by
    show (pairOf (pairI q)).bind (fun k => (pairsOf (M.map pairI)).map fun r => k :: r) = _
    rw [pairsOf_enc M]; rfl
theorem merge_enc {M : CL} (h : nd M) : mergeD [] (enc M) = enc M := by
  have := fold_put M [] (by simpa using h)
  rw [show enc ([] : CL) = [] from rfl, List.nil_append] at this
  exact this
noncomputable abbrev goC : EF := lockF 2 (lcF (keysI (varF 2)) (nameG 5) (asT (binF gtI (dgetF (varF 2) (varF 5)) (conF (.int 1)))) (tupF (consF (varF 5) (consF (binF subI (dgetF (varF 2) (varF 5)) (conF (.int 1))) nilF))) [5])
theorem go_dec (S : Sto) (many : Int) (fl : List D) (L : CL) (less f : Int) (hz : L.length < 50000) (hn : nd L) : goC (tcE many fl S.length less (some (.p (.int f)))) (S ++ [.dic (enc L)]) = some (.loc (S.length + 1), S ++ [.dic (enc L), .lst ((dec L).map pairI)]) := by
  have h := go_rows S many fl L less (some (.p (.int f))) hz hn (asT (binF gtI (dgetF (varF 2) (varF 5)) (conF (.int 1)))) (tupF (consF (varF 5) (consF (binF subI (dgetF (varF 2) (varF 5)) (conF (.int 1))) nilF))) (fun c => decide (1 < c)) (fun c => c - 1)
    (fun k c acc hl => by
      have h1 := e_dget1 (S := S ++ [O.lck (enc L), O.lst acc]) (i := S.length) (d := .int k) (dictOf_lck (kvs := enc L) (by simp)) (key_int k)
      rw [val_enc, hl] at h1
      simp [h1])
    (fun k c acc hl => by
      have h1 := e_dget1 (S := S ++ [O.lck (enc L), O.lst acc]) (i := S.length) (d := .int k) (dictOf_lck (kvs := enc L) (by simp)) (key_int k)
      rw [val_enc, hl] at h1
      simp [h1, tupT, allP])
  refine h.trans ?_
  unfold dec
  rw [List.map_map]; rfl
theorem go_set (S : Sto) (many : Int) (fl : List D) (L : CL) (less f : Int) (hz : L.length < 50000) (hn : nd L) : setS 2 (argF dictT (consF goC nilF)) S.length (tcE many fl S.length less (some (.p (.int f)))) (S ++ [.dic (enc L)])
    = some (.nx, tcE many fl S.length less (some (.p (.int f))), S ++ [.dic (enc (dec L))]) := by
  have hv : argF dictT (consF goC nilF) (tcE many fl S.length less (some (.p (.int f)))) (S ++ [.dic (enc L)]) = some (.loc (S.length + 2), S ++ [.dic (enc L), .lst ((dec L).map pairI), .dic (enc (dec L))]) := by
    have h9 := e_dict (S := S ++ [O.dic (enc L), O.lst ((dec L).map pairI)]) (i := S.length + 1) (by simp) (pairsOf_enc (dec L))
    rw [merge_enc (dec_nd hn)] at h9
    rw [e_arg, e_cons, go_dec S many fl L less f hz hn, Option.bind_some, e_cons1, e_nil, Option.map_some, e_cons2, Option.bind_some, e_argK, h9]
    simp
  have e0 : (S ++ [O.dic (enc L)]).length = S.length + 1 := by simp
  have g : gcV (S.length + 1) (.loc (S.length + 2)) (S ++ [O.dic (enc L), O.lst ((dec L).map pairI), O.dic (enc (dec L))]) = some (.loc (S.length + 1), S ++ [O.dic (enc L), O.dic (enc (dec L))]) := by
    have h1 : ¬ (S.length + 2 < S.length + 1) := by omega
    have t1 : (S ++ [O.dic (enc L), O.lst ((dec L).map pairI), O.dic (enc (dec L))]).take (S.length + 1) = S ++ [O.dic (enc L)] := by
      have := List.take_length_add_append (l₁ := S) (l₂ := [O.dic (enc L), O.lst ((dec L).map pairI), O.dic (enc (dec L))]) 1
      simpa using this
    simp [gcV, gcT, gcOb, h1, t1]
  rw [s_set, hv, Option.bind_some, s_set1, e0, g, Option.map_some, s_set2l]
  have hl : lone 2 S.length (tcE many fl S.length less (some (.p (.int f)))) = true := by
    simp [lone, noLoc, List.range_succ]
  unfold putLoc
  simp [hl]
theorem go_aug (S : Sto) (n : Nat) (many : Int) (fl : List D) (less f : Int) (k : Nat) : setS 3 (binF addT (varF 3) (conF (.int 1))) n (tcE many fl k less (some (.p (.int f)))) S = some (.nx, tcE many fl k (less + 1) (some (.p (.int f))), S) := by
  simp
noncomputable def goB : SF := ifS (orT (asT (dinF false (varF 4) (varF 2))) (asT (binF ltI (argF lenT (consF (varF 2) nilF)) (varF 0)))) (dputS (varF 2) (varF 4) (binF addT (dgetxF (varF 2) (varF 4) (conF (.int 0))) (conF (.int 1)))) (seqS (setS 3 (binF addT (varF 3) (conF (.int 1)))) (setS 2 (argF dictT (consF goC nilF))))
theorem go_body (S : Sto) (many : Int) (fl : List D) (s : CL × Int) (f : Int) (hz : s.1.length < 50000) (hn : nd s.1) : goB S.length (tcE many fl S.length s.2 (some (.p (.int f)))) (S ++ [.dic (enc s.1)])
    = some (.nx, tcE many fl S.length (mgStep many s f).2 (some (.p (.int f))), S ++ [.dic (enc (mgStep many s f).1)]) := by
  have ht := tc_test S many fl s.1 s.2 f
  have tk : (S ++ [O.dic (enc s.1)]).take (S ++ [O.dic (enc s.1)]).length = S ++ [O.dic (enc s.1)] := List.take_length
  by_cases h : has s.1 f = true ∨ (s.1.length : Int) < many
  · rw [decide_eq_true h] at ht
    refine if_go1 ht ?_
    rw [tk]
    have e : mgStep many s f = (put s.1 f ((lk s.1 f).getD 0 + 1), s.2) := if_pos h
    rw [e]
    exact tc_inc S many fl s.1 s.2 f _ (by omega)
  · rw [decide_eq_false h] at ht
    refine if_go0 ht ?_
    rw [tk]
    have e : mgStep many s f = (dec s.1, s.2 + 1) := if_neg h
    rw [e]
    exact seq_go (go_aug _ _ many fl s.2 f _) (go_set S many fl s.1 (s.2 + 1) f hz hn)
theorem r_go (S : Sto) (many : Int) (fs : List Int) (hf : fs.length ≤ 40000) : m__law_go [.p (.int many), .p (.tuple (fs.map PyData.int))] S = some (.p (.tuple [.tuple ((sortP (mg many fs).1).map pairI), .int (mg many fs).2]), S) := by
  have keep : ∀ (less : Int) (lv : Option T), (∀ t, lv = some t → ∃ f, t = .p (.int f)) → ∀ m, S.length < m → forget m (tcE many (fs.map PyData.int) S.length less lv) = tcE many (fs.map PyData.int) S.length less lv := fun less lv hlv m hm => by
    cases lv with
    | none => simp [forget, keepSlot, below, hm]
    | some t =>
      obtain ⟨f, rfl⟩ := hlv t rfl
      simp [forget, keepSlot, below, hm]
  have e0 : (S ++ [O.dic (enc [])]).length = S.length + 1 := by simp
  obtain ⟨env', S', e1, hS, lv, hlv, henv⟩ := loop_inv (gf := nameG 4) (sb := goB) (n := S.length) (m := S.length + 1) (gd := [])
    (fun i env S2 => S2 = S ++ [.dic (enc (mg many (fs.take i)).1)] ∧ ∃ lv : Option T, (∀ t, lv = some t → ∃ f, t = .p (.int f)) ∧ env = tcE many (fs.map PyData.int) S.length (mg many (fs.take i)).2 lv)
    (fun _ _ _ _ => gd_nil) (fs.map PyData.int) 0 (tcE many (fs.map PyData.int) S.length 0 none) (S ++ [.dic (enc [])])
    ⟨rfl, none, fun t h => by simp at h, rfl⟩ (fun j x env S2 hx ⟨h1, lv, hlv, h5⟩ => by
      rw [List.getElem?_map] at hx
      obtain ⟨f, hf2, rfl⟩ := Option.map_eq_some_iff.mp hx
      rw [Nat.zero_add] at h1 h5 ⊢
      subst h1 h5
      obtain ⟨i1, i2⟩ := mg_inv many (fs.take j)
      have hj := (List.getElem?_eq_some_iff.mp hf2).1
      have l9 : (fs.take j).length ≤ 40000 := by rw [List.length_take]; omega
      refine ⟨tcE many (fs.map PyData.int) S.length (mg many (fs.take j)).2 (some (.p (.int f))), _, _, _, rfl, go_body S many _ (mg many (fs.take j)) f (by omega) i1, ?_, some (.p (.int f)), fun t e => ⟨f, (Option.some.inj e).symm⟩, ?_⟩
      · rw [mg_take hf2]
        exact List.take_of_length_le (by simp)
      · rw [keep _ _ (fun t e => ⟨f, (Option.some.inj e).symm⟩) _ (Nat.lt_succ_self _), mg_take hf2])
  subst hS henv
  rw [Nat.zero_add, List.length_map, List.take_length] at e1
  have b1 : asgS (tupF (consF dnewF (consF (conF (.int 0)) nilF))) (tupG 2 (consG (nameG 2) (consG (nameG 3) nilG))) S.length [some (.p (.int many)), some (.p (.tuple (fs.map PyData.int))), none, none, none, none] S = some (.nx, tcE many (fs.map PyData.int) S.length 0 none, S ++ [.dic (enc [])]) := by
    simp [tupT, allP, gcV, gcTs, gcT, gcOb, enc]
  have b2 : forS (tupI (varF 1)) (nameG 4) goB S.length (tcE many (fs.map PyData.int) S.length 0 none) (S ++ [.dic (enc [])]) = some (.nx, tcE many (fs.map PyData.int) S.length (mg many fs).2 lv, S ++ [.dic (enc (mg many fs).1)]) := by
    have hi : tupI (varF 1) (tcE many (fs.map PyData.int) S.length 0 none) (S ++ [.dic (enc [])]) = some (fs.map PyData.int, [], S ++ [.dic (enc [])]) := by simp
    rw [s_for_run hi e0 e1, e0, keep _ lv hlv _ (Nat.lt_succ_self _), List.take_of_length_le (by simp)]
  obtain ⟨hn, hlen⟩ := mg_inv many fs
  have b4 : lockF 2 (lcF (keysI (varF 2)) (nameG 5) yesT (tupF (consF (varF 5) (consF (dgetF (varF 2) (varF 5)) nilF))) [5]) (tcE many (fs.map PyData.int) S.length (mg many fs).2 lv) (S ++ [.dic (enc (mg many fs).1)]) = some (.loc (S.length + 1), S ++ [.dic (enc (mg many fs).1), .lst ((mg many fs).1.map pairI)]) := by
    have h := go_rows S many (fs.map PyData.int) (mg many fs).1 (mg many fs).2 lv (by omega) hn yesT (tupF (consF (varF 5) (consF (dgetF (varF 2) (varF 5)) nilF))) (fun _ => true) (fun c => c)
      (fun k c acc hl => rfl)
      (fun k c acc hl => by
        have h1 := e_dget1 (S := S ++ [O.lck (enc (mg many fs).1), O.lst acc]) (i := S.length) (d := .int k) (dictOf_lck (kvs := enc (mg many fs).1) (by simp)) (key_int k)
        rw [val_enc, hl] at h1
        simp [h1, tupT, allP])
    have hall : ∀ M : CL, (M.filter fun _ => true) = M := fun M => List.filter_eq_self.mpr fun _ _ => rfl
    rw [hall] at h
    exact h
  have b3 : retS (tupF (consF (argF tupleT (consF (argF sortedT (consF (lockF 2 (lcF (keysI (varF 2)) (nameG 5) yesT (tupF (consF (varF 5) (consF (dgetF (varF 2) (varF 5)) nilF))) [5])) nilF)) nilF)) (consF (varF 3) nilF))) S.length (tcE many (fs.map PyData.int) S.length (mg many fs).2 lv) (S ++ [.dic (enc (mg many fs).1)])
      = some (.rt (.p (.tuple [.tuple ((sortP (mg many fs).1).map pairI), .int (mg many fs).2])), tcE many (fs.map PyData.int) S.length (mg many fs).2 lv, S ++ [.dic (enc (mg many fs).1), .lst ((mg many fs).1.map pairI), .lst ((sortP (mg many fs).1).map pairI)]) := by
    refine ret_go ?_
    have h8 := e_sorted (S := S ++ [O.dic (enc (mg many fs).1), O.lst ((mg many fs).1.map pairI)]) (i := S.length + 1) (by simp) (sortD_pairs' (mg many fs).1)
    have h9 := e_tuple (S := S ++ [O.dic (enc (mg many fs).1), O.lst ((mg many fs).1.map pairI), O.lst ((sortP (mg many fs).1).map pairI)]) (i := S.length + 2) (ds := (sortP (mg many fs).1).map pairI) (by simp)
    simp only [List.append_assoc, List.cons_append, List.nil_append, List.length_append, List.length_cons, List.length_nil] at h8
    simp [b4, h8, h9, tupT, allP]
  refine m_ret (show seqS _ (seqS (forS (tupI (varF 1)) (nameG 4) goB) _) _ _ _ = _ from seq_go b1 (seq_go b2 b3)) ?_
  simp
end G66
set_option maxHeartbeats 1000000
/-! P66m: what the counters keep, in plain numbers. -/
namespace G66
open PySem PySem.Spec PyProof.Rows L2 Pv
def sumC (L : CL) : Int := (L.map (·.2)).sum
def gt (L : CL) (f : Int) : Int := (lk L f).getD 0
theorem lk_none {L : CL} {f : Int} (h : has L f = false) : lk L f = none := by
  have := has_lk L f
  rw [h] at this
  cases e : lk L f with
  | none => rfl
  | some c => rw [e] at this; cases this
theorem lk_cons (p : Int × Int) (L : CL) (f : Int) : lk (p :: L) f = if p.1 = f then some p.2 else lk L f := by
  unfold lk
  rw [List.find?_cons]
  by_cases h : p.1 = f
  · rw [decide_eq_true h, if_pos h]; rfl
  · rw [decide_eq_false h, if_neg h]
theorem has_cons (p : Int × Int) (L : CL) (f : Int) : has (p :: L) f = (decide (p.1 = f) || has L f) := rfl
theorem lk_app (L M : CL) (f : Int) : lk (L ++ M) f = (lk L f).or (lk M f) := by
  induction L with
  | nil => rfl
  | cons p L ih =>
    rw [List.cons_append, lk_cons, lk_cons]
    split
    · rfl
    · exact ih
theorem lk_upd (L : CL) (f c g : Int) : lk (L.map fun p => if p.1 = f then (p.1, c) else p) g = if g = f then (lk L f).map fun _ => c else lk L g := by
  induction L with
  | nil => split <;> rfl
  | cons p L ih =>
    rw [List.map_cons, lk_cons, lk_cons p L f, lk_cons p L g, ih]
    by_cases h : p.1 = f
    · by_cases hg : g = f
      · subst hg; simp [h]
      · have : ¬ f = g := fun e => hg e.symm
        simp [h, hg, this]
    · by_cases hg : g = f
      · subst hg; simp [h]
      · simp [h, hg]
theorem lk_put (L : CL) (f c g : Int) : lk (put L f c) g = if g = f then some c else lk L g := by
  unfold put
  by_cases h : has L f = true
  · rw [if_pos h, lk_upd]
    split
    · have := has_lk L f
      rw [h] at this
      cases e : lk L f with
      | none => rw [e] at this; cases this
      | some d => rfl
    · rfl
  · rw [if_neg h, lk_app, lk_cons]
    have h' : has L f = false := by simpa using h
    by_cases hg : g = f
    · subst hg
      rw [if_pos rfl, if_pos rfl, lk_none h']; rfl
    · rw [if_neg hg, if_neg (fun e => hg e.symm)]
      cases lk L g <;> rfl
theorem dec_cons (p : Int × Int) (L : CL) : dec (p :: L) = if 1 < p.2 then (p.1, p.2 - 1) :: dec L else dec L := by
  unfold dec
  rw [List.filter_cons]
  by_cases h : 1 < p.2
  · rw [decide_eq_true h, if_pos rfl, if_pos h]; rfl
  · rw [decide_eq_false h, if_neg Bool.false_ne_true, if_neg h]
theorem lk_dec {L : CL} (h : nd L) (f : Int) : lk (dec L) f = (lk L f).bind fun c => if 1 < c then some (c - 1) else none := by
  induction L with
  | nil => rfl
  | cons p L ih =>
    unfold nd at h
    rw [List.map_cons, List.nodup_cons] at h
    rw [dec_cons, lk_cons]
    by_cases hf : p.1 = f
    · have h0 : has L f = false := by
        cases e : has L f with
        | false => rfl
        | true => exact absurd (hf ▸ has_mem.mp e) h.1
      rw [if_pos hf, Option.bind_some]
      by_cases h1 : 1 < p.2
      · rw [if_pos h1, if_pos h1, lk_cons, if_pos hf]
      · rw [if_neg h1, if_neg h1, ih h.2, lk_none h0]; rfl
    · rw [if_neg hf]
      by_cases h1 : 1 < p.2
      · rw [if_pos h1, lk_cons, if_neg hf, ih h.2]
      · rw [if_neg h1, ih h.2]
theorem sum_cons (p : Int × Int) (L : CL) : sumC (p :: L) = p.2 + sumC L := rfl
theorem sum_dec {L : CL} (h : ∀ p ∈ L, 1 ≤ p.2) : sumC (dec L) + L.length = sumC L := by
  induction L with
  | nil => rfl
  | cons p L ih =>
    have h1 := h p List.mem_cons_self
    have ih := ih fun q hq => h q (List.mem_cons_of_mem _ hq)
    rw [dec_cons, sum_cons]
    split
    · rw [sum_cons, List.length_cons]; omega
    · rw [List.length_cons]; omega
theorem sum_upd {L : CL} (h : nd L) {f c d : Int} (hl : lk L f = some d) : sumC (L.map fun p => if p.1 = f then (p.1, c) else p) + d = sumC L + c := by
  induction L with
  | nil => cases hl
  | cons p L ih =>
    unfold nd at h
    rw [List.map_cons, List.nodup_cons] at h
    rw [lk_cons] at hl
    rw [List.map_cons, sum_cons, sum_cons]
    by_cases hf : p.1 = f
    · rw [if_pos hf] at hl ⊢
      cases hl
      have : (L.map fun p => if p.1 = f then (p.1, c) else p) = L := by
        refine (List.map_congr_left fun q hq => ?_).trans (List.map_id L)
        have : ¬ q.1 = f := fun e => h.1 (hf ▸ e ▸ List.mem_map_of_mem hq)
        rw [if_neg this]; rfl
      rw [this]
      simp only
      omega
    · rw [if_neg hf] at hl ⊢
      have := ih h.2 hl
      omega
theorem sum_app (L M : CL) : sumC (L ++ M) = sumC L + sumC M := by
  unfold sumC
  rw [List.map_append, List.sum_append]
theorem sum_put {L : CL} (h : nd L) (f : Int) : sumC (put L f (gt L f + 1)) = sumC L + 1 := by
  unfold put gt
  by_cases hh : has L f = true
  · rw [if_pos hh]
    have := has_lk L f
    rw [hh] at this
    cases e : lk L f with
    | none => rw [e] at this; cases this
    | some d =>
      have := sum_upd (c := d + 1) h e
      simp only [Option.getD_some]
      omega
  · rw [if_neg hh, sum_app]
    have h' : has L f = false := by simpa using hh
    rw [lk_none h']
    rfl
theorem put_mem {L : CL} {f c : Int} {p : Int × Int} (h : p ∈ put L f c) : p ∈ L ∨ p = (f, c) := by
  unfold put at h
  split at h
  · obtain ⟨q, hq, e⟩ := List.mem_map.mp h
    by_cases hf : q.1 = f
    · rw [if_pos hf] at e; exact .inr (by rw [← e, hf])
    · rw [if_neg hf] at e; exact .inl (e ▸ hq)
  · rcases List.mem_append.mp h with h | h
    · exact .inl h
    · exact .inr (by simpa using h)
/-- what is kept behind fs -/
structure Mg (many : Int) (fs : List Int) (s : CL × Int) : Prop where
  nd : nd s.1
  pos : ∀ p ∈ s.1, 1 ≤ p.2
  len : (s.1.length : Int) ≤ many
  sum : sumC s.1 + s.2 * (many + 1) = fs.length
  less : 0 ≤ s.2
  lo : ∀ f, (fs.count f : Int) - s.2 ≤ gt s.1 f
  hi : ∀ f, gt s.1 f ≤ fs.count f
theorem gt_nonneg {L : CL} (h : ∀ p ∈ L, 1 ≤ p.2) (f : Int) : 0 ≤ gt L f := by
  unfold gt
  induction L with
  | nil => exact Int.le_refl _
  | cons p L ih =>
    rw [lk_cons]
    split
    · have := h p List.mem_cons_self
      simp only [Option.getD_some]; omega
    · exact ih fun q hq => h q (List.mem_cons_of_mem _ hq)
theorem Mg.step {many : Int} {fs : List Int} {s : CL × Int} {f : Int} (hm : 0 ≤ many) (h : Mg many fs s) : Mg many (fs ++ [f]) (mgStep many s f) := by
  have hc : ∀ g, ((fs ++ [f]).count g : Int) = fs.count g + if g = f then 1 else 0 := fun g => by
    rw [List.count_append]
    by_cases e : g = f
    · subst e; simp
    · rw [if_neg e, List.count_cons, List.count_nil]
      have : (f == g) = false := by simpa using fun z => e z.symm
      rw [this]; simp
  have hl : ((fs ++ [f]).length : Int) = fs.length + 1 := by simp
  unfold mgStep
  by_cases hh : has s.1 f = true ∨ (s.1.length : Int) < many
  · rw [if_pos hh]
    refine ⟨put_nd h.nd, fun p hp => ?_, ?_, ?_, h.less, fun g => ?_, fun g => ?_⟩
    · rcases put_mem hp with hp | rfl
      · exact h.pos p hp
      · have := gt_nonneg h.pos f
        unfold gt at this
        show 1 ≤ (lk s.1 f).getD 0 + 1
        omega
    · show ((put s.1 f _).length : Int) ≤ many
      rw [put_len]
      have := h.len
      split
      · exact this
      · rcases hh with hh | hh
        · contradiction
        · omega
    · have := sum_put h.nd f
      have h2 := h.sum
      unfold gt at this
      rw [hl]
      show sumC (put s.1 f _) + s.2 * (many + 1) = _
      omega
    · have h2 := h.lo g
      unfold gt at h2 ⊢
      rw [hc]
      show _ ≤ (lk (put s.1 f _) g).getD 0
      rw [lk_put]
      by_cases e : g = f
      · subst e; rw [if_pos rfl, if_pos rfl, Option.getD_some]; omega
      · rw [if_neg e, if_neg e]; omega
    · have h2 := h.hi g
      unfold gt at h2 ⊢
      rw [hc]
      show (lk (put s.1 f _) g).getD 0 ≤ _
      rw [lk_put]
      by_cases e : g = f
      · subst e; rw [if_pos rfl, if_pos rfl, Option.getD_some]; omega
      · rw [if_neg e, if_neg e]; omega
  · rw [if_neg hh]
    have h0 : has s.1 f = false := by
      cases e : has s.1 f with
      | false => rfl
      | true => exact absurd (.inl e) hh
    have h1 : (s.1.length : Int) = many := by
      have := h.len
      have : ¬ (s.1.length : Int) < many := fun e => hh (.inr e)
      omega
    have gd : ∀ g, gt (dec s.1) g = if 1 ≤ gt s.1 g then gt s.1 g - 1 else gt s.1 g := fun g => by
      have hn := gt_nonneg h.pos g
      unfold gt at hn ⊢
      rw [lk_dec h.nd]
      cases e : lk s.1 g with
      | none => rfl
      | some c =>
        rw [e] at hn
        simp only [Option.getD_some, Option.bind_some] at hn ⊢
        by_cases h3 : 1 < c
        · rw [if_pos h3, if_pos (by omega)]; rfl
        · rw [if_neg h3]
          simp only [Option.getD_none]
          split <;> omega
    refine ⟨dec_nd h.nd, fun p hp => ?_, ?_, ?_, by have := h.less; show 0 ≤ s.2 + 1; omega, fun g => ?_, fun g => ?_⟩
    · unfold dec at hp
      obtain ⟨q, hq, rfl⟩ := List.mem_map.mp hp
      have := of_decide_eq_true (List.mem_filter.mp hq).2
      show 1 ≤ q.2 - 1
      omega
    · have := dec_len s.1
      show ((dec s.1).length : Int) ≤ many
      omega
    · have h2 := sum_dec h.pos
      have h3 := h.sum
      rw [hl]
      show sumC (dec s.1) + (s.2 + 1) * (many + 1) = _
      rw [Int.add_mul, Int.one_mul]
      omega
    · have h2 := h.lo g
      have hn := gt_nonneg h.pos g
      rw [hc]
      show _ ≤ gt (dec s.1) g
      show _ - (s.2 + 1) ≤ _
      rw [gd]
      by_cases e : g = f
      · subst e
        have z : gt s.1 g = 0 := by unfold gt; rw [lk_none h0]; rfl
        rw [if_pos rfl]
        split <;> omega
      · rw [if_neg e]
        split <;> omega
    · have h2 := h.hi g
      have hn := gt_nonneg h.pos g
      rw [hc]
      show gt (dec s.1) g ≤ _
      rw [gd]
      split <;> split <;> omega
theorem mg_ok {many : Int} (hm : 0 ≤ many) (fs : List Int) : Mg many fs (mg many fs) := by
  suffices H : ∀ (gs fs : List Int) (s : CL × Int), Mg many fs s → Mg many (fs ++ gs) (gs.foldl (mgStep many) s) by
    have h0 : Mg many [] ([], 0) := ⟨List.nodup_nil, fun p h => by simp at h, by simpa using hm, by simp [sumC], Int.le_refl _, fun f => by simp [gt, lk], fun f => by simp [gt, lk]⟩
    have := H fs [] ([], 0) h0
    simpa [mg] using this
  intro gs
  induction gs with
  | nil => exact fun fs s h => by simpa using h
  | cons g gs ih =>
    intro fs s h
    have := ih (fs ++ [g]) (mgStep many s g) (h.step hm)
    rw [List.append_assoc] at this
    exact this
end G66
set_option maxHeartbeats 1000000
/-! P66h: told_amounts, heavy. -/
namespace G66
open PySem PySem.Spec PyProof.Rows L2 Pv
def amt (fs : List Int) : CL := fs.foldl (fun L f => put L f ((lk L f).getD 0 + 1)) []
theorem amt_take {fs : List Int} {i : Nat} {f : Int} (h : fs[i]? = some f) : amt (fs.take (i + 1)) = put (amt (fs.take i)) f ((lk (amt (fs.take i)) f).getD 0 + 1) := by
  unfold amt
  rw [List.take_succ, h, List.foldl_append]; rfl
theorem amt_len : ∀ fs : List Int, (amt fs).length ≤ fs.length := by
  suffices H : ∀ (fs : List Int) (L : CL), (fs.foldl (fun L f => put L f ((lk L f).getD 0 + 1)) L).length ≤ L.length + fs.length by
    intro fs
    have := H fs []
    simpa [amt] using this
  intro fs
  induction fs with
  | nil => intro L; simp
  | cons f fs ih =>
    intro L
    have h1 := ih (put L f ((lk L f).getD 0 + 1))
    have h2 := put_len L f ((lk L f).getD 0 + 1)
    rw [List.foldl_cons, List.length_cons]
    split at h2 <;> omega
abbrev taE (fl : List D) (n : Nat) (lv : Option T) : Pv.Env := [some (.p (.tuple fl)), some (.loc n), lv]
theorem ta_inc (S : Sto) (fl : List D) (L : CL) (f : Int) (n : Nat) (hz : L.length < 100000) : dputS (varF 1) (varF 2) (binF addT (dgetxF (varF 1) (varF 2) (conF (.int 0))) (conF (.int 1))) n (taE fl S.length (some (.p (.int f)))) (S ++ [.dic (enc L)])
    = some (.nx, taE fl S.length (some (.p (.int f))), S ++ [.dic (enc (put L f ((lk L f).getD 0 + 1)))]) := by
  have h0 := dictOf_dic (S := S ++ [.dic (enc L)]) (i := S.length) ap0
  have h1 := e_dgetx0 (fi := varF 2) (fx := conF (.int 0)) (env := taE fl S.length (some (.p (.int f)))) h0
  have h2 := e_dgetx2 (v := .p (.int 0)) h0 (key_int f)
  rw [val_enc] at h2
  have h3 : ∀ c, dputK2 (taE fl S.length (some (.p (.int f)))) (S.length + 1) (.p (.int c)) (.loc S.length) (.p (.int f), S ++ [.dic (enc L)]) = some (.nx, taE fl S.length (some (.p (.int f))), S ++ [.dic (enc (put L f c))]) := fun c => by
    rw [s_dput2 (kvs := enc L) ap0 (key_int f) (by rw [enc_len, sizeLine_eq]; omega), put_enc, st0, tk1]
  cases e : lk L f with
  | none =>
    rw [e] at h2
    simp [h1, h2, h3]
  | some c =>
    rw [e] at h2
    simp [h1, h2, h3]
noncomputable def taB : SF := dputS (varF 1) (varF 2) (binF addT (dgetxF (varF 1) (varF 2) (conF (.int 0))) (conF (.int 1)))
theorem r_amounts (S : Sto) (fs : List Int) (hf : fs.length ≤ 40000) : m_told_amounts [.p (.tuple (fs.map PyData.int))] S = some (.loc S.length, S ++ [.dic (enc (amt fs))]) := by
  have keep : ∀ (lv : Option T), (∀ t, lv = some t → ∃ f, t = .p (.int f)) → ∀ m, S.length < m → forget m (taE (fs.map PyData.int) S.length lv) = taE (fs.map PyData.int) S.length lv := fun lv hlv m hm => by
    cases lv with
    | none => simp [forget, keepSlot, below, hm]
    | some t =>
      obtain ⟨f, rfl⟩ := hlv t rfl
      simp [forget, keepSlot, below, hm]
  have e0 : (S ++ [O.dic (enc [])]).length = S.length + 1 := by simp
  obtain ⟨env', S', e1, hS, lv, hlv, henv⟩ := loop_inv (gf := nameG 2) (sb := taB) (n := S.length) (m := S.length + 1) (gd := [])
    (fun i env S2 => S2 = S ++ [.dic (enc (amt (fs.take i)))] ∧ ∃ lv : Option T, (∀ t, lv = some t → ∃ f, t = .p (.int f)) ∧ env = taE (fs.map PyData.int) S.length lv)
    (fun _ _ _ _ => gd_nil) (fs.map PyData.int) 0 (taE (fs.map PyData.int) S.length none) (S ++ [.dic (enc [])])
    ⟨rfl, none, fun t h => by simp at h, rfl⟩ (fun j x env S2 hx ⟨h1, lv, hlv, h5⟩ => by
      rw [List.getElem?_map] at hx
      obtain ⟨f, hf2, rfl⟩ := Option.map_eq_some_iff.mp hx
      rw [Nat.zero_add] at h1 ⊢
      subst h1 h5
      have i2 := amt_len (fs.take j)
      have hj := (List.getElem?_eq_some_iff.mp hf2).1
      have l9 : (fs.take j).length ≤ 40000 := by rw [List.length_take]; omega
      refine ⟨taE (fs.map PyData.int) S.length (some (.p (.int f))), _, _, _, rfl, ta_inc S (fs.map PyData.int) (amt (fs.take j)) f S.length (by omega), ?_, some (.p (.int f)), fun t e => ⟨f, (Option.some.inj e).symm⟩, ?_⟩
      · rw [amt_take hf2]
        exact List.take_of_length_le (by simp)
      · exact keep _ (fun t e => ⟨f, (Option.some.inj e).symm⟩) _ (Nat.lt_succ_self _))
  subst hS henv
  rw [Nat.zero_add, List.length_map, List.take_length] at e1
  have b1 : setS 1 dnewF S.length [some (.p (.tuple (fs.map PyData.int))), none, none] S = some (.nx, taE (fs.map PyData.int) S.length none, S ++ [.dic (enc [])]) := by
    rw [s_set, e_dnew, Option.bind_some, s_set1, gc_new rfl, Option.map_some, s_set2l]
    rfl
  have b2 : forS (tupI (varF 0)) (nameG 2) taB S.length (taE (fs.map PyData.int) S.length none) (S ++ [.dic (enc [])]) = some (.nx, taE (fs.map PyData.int) S.length lv, S ++ [.dic (enc (amt fs))]) := by
    have hi : tupI (varF 0) (taE (fs.map PyData.int) S.length none) (S ++ [.dic (enc [])]) = some (fs.map PyData.int, [], S ++ [.dic (enc [])]) := by simp
    rw [s_for_run hi e0 e1, e0, keep lv hlv _ (Nat.lt_succ_self _), List.take_of_length_le (by simp)]
  have b3 : retS (varF 1) S.length (taE (fs.map PyData.int) S.length lv) (S ++ [.dic (enc (amt fs))]) = some (.rt (.loc S.length), taE (fs.map PyData.int) S.length lv, S ++ [.dic (enc (amt fs))]) := ret_go (by simp)
  refine m_ret (show seqS _ (seqS (forS (tupI (varF 0)) (nameG 2) taB) _) _ _ _ = _ from seq_go b1 (seq_go b2 b3)) ?_
  exact gc_new rfl
end G66
set_option maxHeartbeats 1000000
/-! P66i: heavy, most_lost. -/
namespace G66
open PySem PySem.Spec PyProof.Rows L2 Pv
theorem e_mulTI {k l : Int} {S : Sto} (h : CMul k l) : mulT (.p (.int k)) (.p (.int l)) S = some (.p (.int (k * l)), S) := by
  show (if CMul k l ∨ CMulW k l then _ else _) = _
  rw [if_pos (.inl h)]
theorem amt_nd : ∀ fs : List Int, nd (amt fs) := by
  suffices H : ∀ (fs : List Int) (L : CL), nd L → nd (fs.foldl (fun L f => put L f ((lk L f).getD 0 + 1)) L) by
    exact fun fs => H fs [] List.nodup_nil
  intro fs
  induction fs with
  | nil => exact fun L h => h
  | cons f fs ih => exact fun L h => ih _ (put_nd h)
def hv (parts : Int) (fs : List Int) : List Int := ((amt fs).filter fun q => decide ((fs.length : Int) < q.2 * parts)).map (·.1)
theorem lk_keys (L : CL) (p : Int → Bool) : ∀ M : CL, (∀ q ∈ M, lk L q.1 = some q.2) → ((((enc M).map fun z => dK z.1).filter fun x => match x with | .int k => p ((lk L k).getD 0) | _ => false).map fun x => x) = ((M.filter fun q => p q.2).map (·.1)).map PyData.int
  | [], _ => rfl
  | q :: M, h => by
    have ih := lk_keys L p M fun r hr => h r (List.mem_cons_of_mem _ hr)
    have hp := h q List.mem_cons_self
    show (((dK (.inl q.1) :: (enc M).map fun z => dK z.1).filter _).map _) = _
    rw [List.filter_cons, List.filter_cons]
    simp only [dK, hp, Option.getD_some]
    cases h1 : p q.2 with
    | true =>
      rw [if_pos rfl, if_pos rfl, List.map_cons, List.map_cons, List.map_cons, ← ih]
      rfl
    | false =>
      rw [if_neg Bool.false_ne_true, if_neg Bool.false_ne_true]
      exact ih
abbrev thE (fl : List D) (parts : Int) (n : Nat) (x : Option T) : Pv.Env := [some (.p (.tuple fl)), some (.p (.int parts)), some (.loc n), x]
theorem r_theavy (S : Sto) (parts : Int) (fs : List Int) (hf : fs.length ≤ 40000) (h1 : 1 ≤ parts) (h2 : parts ≤ 21) : m_told_heavy [.p (.tuple (fs.map PyData.int)), .p (.int parts)] S = some (.p (.tuple ((sortI (hv parts fs)).map PyData.int)), S) := by
  have ha := r_amounts S fs hf
  have hn := amt_nd fs
  have hlen := amt_len fs
  have cm : ∀ c, CMul c parts := fun c => cmul_r (by omega) (by omega)
  have b1 : setS 2 (callF 1 m_told_amounts (consF (varF 0) nilF)) S.length [some (.p (.tuple (fs.map PyData.int))), some (.p (.int parts)), none, none] S = some (.nx, thE (fs.map PyData.int) parts S.length none, S ++ [.dic (enc (amt fs))]) := by
    have hv0 : callF 1 m_told_amounts (consF (varF 0) nilF) [some (.p (.tuple (fs.map PyData.int))), some (.p (.int parts)), none, none] S = some (.loc S.length, S ++ [.dic (enc (amt fs))]) := by simp [ha]
    rw [s_set, hv0, Option.bind_some, s_set1, gc_new rfl, Option.map_some, s_set2l]
    rfl
  have key : lcGo (nameG 3) (asT (binF gtI (binF mulT (dgetF (varF 2) (varF 3)) (varF 1)) (argF lenT (consF (varF 0) nilF)))) (varF 3) (wipeE (thE (fs.map PyData.int) parts S.length none) [3]) (S ++ [O.lck (enc (amt fs))]).length [(S.length, .lck (enc (amt fs)))] ((enc (amt fs)).map fun z => dK z.1) [] (S ++ [O.lck (enc (amt fs))])
      = some ((hv parts fs).map PyData.int, S ++ [O.lck (enc (amt fs))]) := by
    have hgd : GdOk [(S.length, O.lck (enc (amt fs)))] (S ++ [O.lck (enc (amt fs))]) := fun p hp => by
      have : p = (S.length, O.lck (enc (amt fs))) := by simpa using hp
      subst this; simp
    rw [lc_pure (fun x => match x with | .int k => decide ((fs.length : Int) < ((lk (amt fs) k).getD 0) * parts) | _ => false) (fun x => x) rfl hgd ((enc (amt fs)).map fun z => dK z.1) [] (by simp [enc_len]; omega) (fun x acc hx => by
        obtain ⟨z, hz, rfl⟩ := List.mem_map.mp hx
        obtain ⟨q, hq, rfl⟩ := List.mem_map.mp hz
        have hl := mem_lk hn hq
        have eS : S ++ [O.lck (enc (amt fs))] ++ [O.lst acc] = S ++ [O.lck (enc (amt fs)), O.lst acc] := by simp
        rw [eS]
        have h1 := e_dget1 (S := S ++ [O.lck (enc (amt fs)), O.lst acc]) (i := S.length) (d := .int q.1) (dictOf_lck (kvs := enc (amt fs)) (by simp)) (key_int q.1)
        rw [val_enc, hl] at h1
        refine ⟨thE (fs.map PyData.int) parts S.length (some (.p (.int q.1))), rfl, ?_, fun _ => ?_⟩
        · simp [dK, hl, h1, e_mulTI (cm _)]
        · simp [dK])]
    rw [List.nil_append, lk_keys (amt fs) (fun c => decide ((fs.length : Int) < c * parts)) (amt fs) fun q hq => mem_lk hn hq]
    rfl
  have hb : lcF (keysI (varF 2)) (nameG 3) (asT (binF gtI (binF mulT (dgetF (varF 2) (varF 3)) (varF 1)) (argF lenT (consF (varF 0) nilF)))) (varF 3) [3] (thE (fs.map PyData.int) parts S.length none) (S ++ [O.lck (enc (amt fs))]) = some (.loc (S.length + 1), S ++ [O.lck (enc (amt fs)), O.lst ((hv parts fs).map PyData.int)]) := by
    have hk := i_keysK (S := S ++ [O.lck (enc (amt fs))]) (i := S.length) (kvs := enc (amt fs)) ap0
    rw [e_lc, i_keys]
    rw [show varF 2 (thE (fs.map PyData.int) parts S.length none) (S ++ [O.lck (enc (amt fs))]) = some (.loc S.length, S ++ [O.lck (enc (amt fs))]) by simp, Option.bind_some, hk, Option.bind_some, e_lc1 key]
    simp
  have b4 := e_lock (i := 2) (j := S.length) (env := thE (fs.map PyData.int) parts S.length none) (S := S ++ [O.dic (enc (amt fs))]) (kvs := enc (amt fs)) rfl ap0 (by rw [st0]; exact hb) (by simp)
  have t4 : (S ++ [O.lck (enc (amt fs)), O.lst ((hv parts fs).map PyData.int)]).set S.length (O.dic (enc (amt fs))) = S ++ [O.dic (enc (amt fs)), O.lst ((hv parts fs).map PyData.int)] := by simp
  simp only [t4] at b4
  have b3 : retS (argF tupleT (consF (argF sortedT (consF (lockF 2 (lcF (keysI (varF 2)) (nameG 3) (asT (binF gtI (binF mulT (dgetF (varF 2) (varF 3)) (varF 1)) (argF lenT (consF (varF 0) nilF)))) (varF 3) [3])) nilF)) nilF)) S.length (thE (fs.map PyData.int) parts S.length none) (S ++ [.dic (enc (amt fs))])
      = some (.rt (.p (.tuple ((sortI (hv parts fs)).map PyData.int))), thE (fs.map PyData.int) parts S.length none, S ++ [.dic (enc (amt fs)), .lst ((hv parts fs).map PyData.int), .lst ((sortI (hv parts fs)).map PyData.int)]) := by
    refine ret_go ?_
    have h8 := e_sorted (S := S ++ [O.dic (enc (amt fs)), O.lst ((hv parts fs).map PyData.int)]) (i := S.length + 1) (by simp) (sortD_ints (hv parts fs))
    have h9 := e_tuple (S := S ++ [O.dic (enc (amt fs)), O.lst ((hv parts fs).map PyData.int), O.lst ((sortI (hv parts fs)).map PyData.int)]) (i := S.length + 2) (ds := (sortI (hv parts fs)).map PyData.int) (by simp)
    simp only [List.append_assoc, List.cons_append, List.nil_append, List.length_append, List.length_cons, List.length_nil] at h8
    rw [e_arg, e_cons, e_arg, e_cons, b4]
    simp [h8, h9]
  refine m_ret (show seqS _ _ _ _ _ = _ from seq_go b1 b3) ?_
  simp
end G66
set_option maxHeartbeats 1000000
/-! P66j: heavy, most_lost, sure_by. -/
namespace G66
open PySem PySem.Spec PyProof.Rows L2 Pv
theorem r_heavy (S : Sto) (parts : Int) (fs : List Int) (hl : fs.length ≤ 500) (h : ∀ f ∈ fs, 0 ≤ f ∧ f ≤ 1000) (h1 : 1 ≤ parts) (h2 : parts ≤ 21) : m_heavy [.p (.tuple (fs.map PyData.int)), .p (.int parts)] S = some (.p (.tuple ((sortI (hv parts fs)).map PyData.int)), S) := by
  have a1 := r_flows S fs hl h
  have a2 := isint_b parts 1 21 h1 h2 S
  have a3 := r_theavy S parts fs (by omega) h1 h2
  have b1 : exprS (callF 1 m_look_at_flows (consF (varF 0) nilF)) S.length [some (.p (.tuple (fs.map PyData.int))), some (.p (.int parts))] S = some (.nx, [some (.p (.tuple (fs.map PyData.int))), some (.p (.int parts))], S) := by simp [a1]
  have b2 : ifS (notT (asT (callF 3 m_is_int (consF (varF 1) (consF (conF (.int 1)) (consF (binF addT (conF (.int 20)) (conF (.int 1))) nilF)))))) noneS nextS S.length [some (.p (.tuple (fs.map PyData.int))), some (.p (.int parts))] S = some (.nx, [some (.p (.tuple (fs.map PyData.int))), some (.p (.int parts))], S) := by
    refine if_go0 (S' := S) (by simp [a2]) ?_
    rw [List.take_length]; rfl
  have b3 : retS (callF 2 m_told_heavy (consF (varF 0) (consF (varF 1) nilF))) S.length [some (.p (.tuple (fs.map PyData.int))), some (.p (.int parts))] S = some (.rt (.p (.tuple ((sortI (hv parts fs)).map PyData.int))), [some (.p (.tuple (fs.map PyData.int))), some (.p (.int parts))], S) := ret_go (by simp [a3])
  exact m_ret (show seqS _ (seqS _ _) _ _ _ = _ from seq_go b1 (seq_go b2 b3)) (by simp)
theorem r_most (S : Sto) (many n : Int) (h1 : 1 ≤ many) (h2 : many ≤ 20) (h3 : 0 ≤ n) (h4 : n ≤ 1000000) : m_most_lost [.p (.int many), .p (.int n)] S = some (.p (.int (n / (many + 1))), S) := by
  have a1 := r_many S many h1 h2
  have a2 := isint_b n 0 1000000 h3 h4 S
  have cd : CDiv n (many + 1) := ⟨by omega, by omega⟩
  have b1 : exprS (callF 1 m_look_at_many (consF (varF 0) nilF)) S.length [some (.p (.int many)), some (.p (.int n))] S = some (.nx, [some (.p (.int many)), some (.p (.int n))], S) := by simp [a1]
  have b2 : ifS (notT (asT (callF 3 m_is_int (consF (varF 1) (consF (conF (.int 0)) (consF (conF (.int 1000000)) nilF)))))) noneS nextS S.length [some (.p (.int many)), some (.p (.int n))] S = some (.nx, [some (.p (.int many)), some (.p (.int n))], S) := by
    refine if_go0 (S' := S) (by simp [a2]) ?_
    rw [List.take_length]; rfl
  have b3 : retS (binF divI (varF 1) (binF addT (varF 0) (conF (.int 1)))) S.length [some (.p (.int many)), some (.p (.int n))] S = some (.rt (.p (.int (n / (many + 1)))), [some (.p (.int many)), some (.p (.int n))], S) := ret_go (by simp [cd])
  exact m_ret (show seqS _ (seqS _ _) _ _ _ = _ from seq_go b1 (seq_go b2 b3)) (by simp)
/-- what sure_by tells -/
def word (many : Int) (fs : List Int) (f : Int) : D := if (fs.length : Int) < gt (mg many fs).1 f * (many + 1) then .str "sure" else if (gt (mg many fs).1 f + (mg many fs).2) * (many + 1) ≤ fs.length then .str "light" else .none
theorem r_sure (S : Sto) (many f : Int) (fs : List Int) (h1 : 1 ≤ many) (h2 : many ≤ 20) (hl : fs.length ≤ 500) (h : ∀ f ∈ fs, 0 ≤ f ∧ f ≤ 1000) (h3 : 0 ≤ f) (h4 : f ≤ 1000) : m_sure_by [.p (.int many), .p (.tuple (fs.map PyData.int)), .p (.int f)] S = some (.p (word many fs f), S) := by
  have a1 := r_many S many h1 h2
  have a2 := r_flows S fs hl h
  have a3 := isint_b f 0 1000 h3 h4 S
  have a4 := r_told S many fs (by omega)
  have cm : ∀ c, CMul c (many + 1) := fun c => cmul_r (by omega) (by omega)
  have b1 : exprS (callF 1 m_look_at_many (consF (varF 0) nilF)) S.length [some (.p (.int many)), some (.p (.tuple (fs.map PyData.int))), some (.p (.int f)), none, none, none] S = some (.nx, [some (.p (.int many)), some (.p (.tuple (fs.map PyData.int))), some (.p (.int f)), none, none, none], S) := by simp [a1]
  have b2 : exprS (callF 1 m_look_at_flows (consF (varF 1) nilF)) S.length [some (.p (.int many)), some (.p (.tuple (fs.map PyData.int))), some (.p (.int f)), none, none, none] S = some (.nx, [some (.p (.int many)), some (.p (.tuple (fs.map PyData.int))), some (.p (.int f)), none, none, none], S) := by simp [a2]
  have b3 : ifS (notT (asT (callF 3 m_is_int (consF (varF 2) (consF (conF (.int 0)) (consF (conF (.int 1000)) nilF)))))) noneS nextS S.length [some (.p (.int many)), some (.p (.tuple (fs.map PyData.int))), some (.p (.int f)), none, none, none] S = some (.nx, [some (.p (.int many)), some (.p (.tuple (fs.map PyData.int))), some (.p (.int f)), none, none, none], S) := by
    refine if_go0 (S' := S) (by simp [a3]) ?_
    rw [List.take_length]; rfl
  have b4 : asgS (callF 2 m_told_counters (consF (varF 0) (consF (varF 1) nilF))) (tupG 2 (consG (nameG 3) (consG (nameG 4) nilG))) S.length [some (.p (.int many)), some (.p (.tuple (fs.map PyData.int))), some (.p (.int f)), none, none, none] S
      = some (.nx, [some (.p (.int many)), some (.p (.tuple (fs.map PyData.int))), some (.p (.int f)), some (.loc S.length), some (.p (.int (mg many fs).2)), none], S ++ [.dic (enc (mg many fs).1)]) := by
    simp [a4, gcV, gcTs, gcT, gcOb]
  have b5 : setS 5 (dgetxF (varF 3) (varF 2) (conF (.int 0))) S.length [some (.p (.int many)), some (.p (.tuple (fs.map PyData.int))), some (.p (.int f)), some (.loc S.length), some (.p (.int (mg many fs).2)), none] (S ++ [.dic (enc (mg many fs).1)])
      = some (.nx, [some (.p (.int many)), some (.p (.tuple (fs.map PyData.int))), some (.p (.int f)), some (.loc S.length), some (.p (.int (mg many fs).2)), some (.p (.int (gt (mg many fs).1 f)))], S ++ [.dic (enc (mg many fs).1)]) := by
    have h0 := dictOf_dic (S := S ++ [.dic (enc (mg many fs).1)]) (i := S.length) ap0
    have h1 := e_dgetx0 (fi := varF 2) (fx := conF (.int 0)) (env := [some (.p (.int many)), some (.p (.tuple (fs.map PyData.int))), some (.p (.int f)), some (.loc S.length), some (.p (.int (mg many fs).2)), none]) h0
    have h2 := e_dgetx2 (v := .p (.int 0)) h0 (key_int f)
    rw [val_enc] at h2
    unfold gt
    cases e : lk (mg many fs).1 f with
    | none =>
      rw [e] at h2
      simp [h1, h2]
    | some c =>
      rw [e] at h2
      simp [h1, h2]
  have tl : (S ++ [O.dic (enc (mg many fs).1)]).take (S ++ [O.dic (enc (mg many fs).1)]).length = S ++ [O.dic (enc (mg many fs).1)] := List.take_length
  by_cases hs : (fs.length : Int) < gt (mg many fs).1 f * (many + 1)
  · have hw : word many fs f = .str "sure" := if_pos hs
    rw [hw]
    have b6 : ifS (asT (binF gtI (binF mulI (varF 5) (binF addT (varF 0) (conF (.int 1)))) (argF lenT (consF (varF 1) nilF)))) (retS (conF (.str "sure"))) nextS S.length [some (.p (.int many)), some (.p (.tuple (fs.map PyData.int))), some (.p (.int f)), some (.loc S.length), some (.p (.int (mg many fs).2)), some (.p (.int (gt (mg many fs).1 f)))] (S ++ [.dic (enc (mg many fs).1)])
        = some (.rt (.p (.str "sure")), [some (.p (.int many)), some (.p (.tuple (fs.map PyData.int))), some (.p (.int f)), some (.loc S.length), some (.p (.int (mg many fs).2)), some (.p (.int (gt (mg many fs).1 f)))], S ++ [.dic (enc (mg many fs).1)]) := by
      refine if_go1 (S' := S ++ [.dic (enc (mg many fs).1)]) (by simp [cm, hs]) ?_
      rw [tl]; rfl
    exact m_ret (show seqS _ (seqS _ (seqS _ (seqS _ (seqS _ (seqS _ _))))) _ _ _ = _ from seq_go b1 (seq_go b2 (seq_go b3 (seq_go b4 (seq_go b5 (seq_rt b6)))))) (by simp)
  · have b6 : ifS (asT (binF gtI (binF mulI (varF 5) (binF addT (varF 0) (conF (.int 1)))) (argF lenT (consF (varF 1) nilF)))) (retS (conF (.str "sure"))) nextS S.length [some (.p (.int many)), some (.p (.tuple (fs.map PyData.int))), some (.p (.int f)), some (.loc S.length), some (.p (.int (mg many fs).2)), some (.p (.int (gt (mg many fs).1 f)))] (S ++ [.dic (enc (mg many fs).1)])
        = some (.nx, [some (.p (.int many)), some (.p (.tuple (fs.map PyData.int))), some (.p (.int f)), some (.loc S.length), some (.p (.int (mg many fs).2)), some (.p (.int (gt (mg many fs).1 f)))], S ++ [.dic (enc (mg many fs).1)]) := by
      have hs' : gt (mg many fs).1 f * (many + 1) ≤ fs.length := by omega
      refine if_go0 (S' := S ++ [.dic (enc (mg many fs).1)]) (by simp [cm, hs']) ?_
      rw [tl]; rfl
    have b7 : retS (ifF (asT (binF leI (binF mulI (binF addT (varF 5) (varF 4)) (binF addT (varF 0) (conF (.int 1)))) (argF lenT (consF (varF 1) nilF)))) (conF (.str "light")) (conF .none)) S.length [some (.p (.int many)), some (.p (.tuple (fs.map PyData.int))), some (.p (.int f)), some (.loc S.length), some (.p (.int (mg many fs).2)), some (.p (.int (gt (mg many fs).1 f)))] (S ++ [.dic (enc (mg many fs).1)])
        = some (.rt (.p (word many fs f)), [some (.p (.int many)), some (.p (.tuple (fs.map PyData.int))), some (.p (.int f)), some (.loc S.length), some (.p (.int (mg many fs).2)), some (.p (.int (gt (mg many fs).1 f)))], S ++ [.dic (enc (mg many fs).1)]) := by
      refine ret_go ?_
      unfold word
      rw [if_neg hs]
      by_cases hw : (gt (mg many fs).1 f + (mg many fs).2) * (many + 1) ≤ fs.length
      · simp [cm, hw]
      · simp [cm, hw]
    exact m_ret (show seqS _ (seqS _ (seqS _ (seqS _ (seqS _ (seqS _ _))))) _ _ _ = _ from seq_go b1 (seq_go b2 (seq_go b3 (seq_go b4 (seq_go b5 (seq_go b6 b7)))))) (by simp)
end G66
set_option maxHeartbeats 1000000
/-! P66k: are_counters. -/
namespace G66
open PySem PySem.Spec PyProof.Rows L2 Pv
/-- rows as counters tells them -/
structure Rows (L : CL) : Prop where
  up : (L.map (·.1)).Pairwise (· < ·)
  key : ∀ p ∈ L, 0 ≤ p.1 ∧ p.1 ≤ 1000
  cnt : ∀ p ∈ L, 1 ≤ p.2 ∧ p.2 ≤ 1000000
  len : L.length ≤ 20
abbrev acE (fl : List D) (x : Option T) : Pv.Env := [some (.p (.tuple fl)), x, none, none]
theorem ac_body (S : Sto) (fl : List D) (p : Int × Int) (h1 : 0 ≤ p.1 ∧ p.1 ≤ 1000) (h2 : 1 ≤ p.2 ∧ p.2 ≤ 1000000) (n : Nat) :
    seqS (ifS (orT (notT (asT (isiF "tuple" (varF 1)))) (asT (binF (eqT true) (argF lenT (consF (varF 1) nilF)) (conF (.int 2))))) (retS (conF (.bool false))) nextS) (ifS (orT (notT (asT (callF 3 m_is_int (consF (binF ixT (varF 1) (conF (.int 0))) (consF (conF (.int 0)) (consF (conF (.int 1000)) nilF)))))) (notT (asT (callF 3 m_is_int (consF (binF ixT (varF 1) (conF (.int 1))) (consF (conF (.int 1)) (consF (conF (.int 1000000)) nilF))))))) (retS (conF (.bool false))) nextS) n (acE fl (some (.p (pairI p)))) S
    = some (.nx, acE fl (some (.p (pairI p))), S) := by
  have a1 := isint_b p.1 0 1000 h1.1 h1.2 S
  have a2 := isint_b p.2 1 1000000 h2.1 h2.2 S
  have e2 : eqT true (.p (.int 2)) (.p (.int 2)) S = some (.p (.bool false), S) := by
    rw [e_eq (d := .int 2) (e := .int 2) rfl rfl rfl rfl]; rfl
  have b1 : ifS (orT (notT (asT (isiF "tuple" (varF 1)))) (asT (binF (eqT true) (argF lenT (consF (varF 1) nilF)) (conF (.int 2))))) (retS (conF (.bool false))) nextS n (acE fl (some (.p (pairI p)))) S = some (.nx, acE fl (some (.p (pairI p))), S) := by
    refine if_go0 (S' := S) (by simp [pairI, e2]) ?_
    rw [List.take_length]; rfl
  have b2 : ifS (orT (notT (asT (callF 3 m_is_int (consF (binF ixT (varF 1) (conF (.int 0))) (consF (conF (.int 0)) (consF (conF (.int 1000)) nilF)))))) (notT (asT (callF 3 m_is_int (consF (binF ixT (varF 1) (conF (.int 1))) (consF (conF (.int 1)) (consF (conF (.int 1000000)) nilF))))))) (retS (conF (.bool false))) nextS n (acE fl (some (.p (pairI p)))) S = some (.nx, acE fl (some (.p (pairI p))), S) := by
    refine if_go0 (S' := S) (by simp [pairI, a1, a2]) ?_
    rw [List.take_length]; rfl
  exact seq_go b1 b2
theorem cutL1 (ds : List D) : cutL ds (some 1) none = ds.drop 1 := by
  unfold cutL
  rw [show HT.sIx ds.length 0 (some 1) = min 1 ds.length from HT.sIx_nat ds.length 0 1, HT.sIx_none]
  cases ds with
  | nil => rfl
  | cons x r =>
    rw [show min 1 (x :: r).length = 1 by rw [List.length_cons]; omega]
    show List.take ((x :: r).length - 1) r = r
    rw [List.length_cons, Nat.add_sub_cancel]
    exact List.take_length
theorem pair_up {L : CL} (h : (L.map (·.1)).Pairwise (· < ·)) {x : D} (hx : x ∈ zipD (L.map pairI) ((L.map pairI).drop 1)) : ∃ p q : Int × Int, x = .tuple [pairI p, pairI q] ∧ p.1 < q.1 := by
  obtain ⟨i, hi⟩ := List.getElem?_of_mem hx
  obtain ⟨a, b, ha, hb, rfl⟩ := zipD_get hi
  rw [List.getElem?_map] at ha
  rw [List.getElem?_drop, List.getElem?_map] at hb
  obtain ⟨p, hp, rfl⟩ := Option.map_eq_some_iff.mp ha
  obtain ⟨q, hq, rfl⟩ := Option.map_eq_some_iff.mp hb
  refine ⟨p, q, rfl, ?_⟩
  obtain ⟨h1, rfl⟩ := List.getElem?_eq_some_iff.mp hp
  obtain ⟨h2, rfl⟩ := List.getElem?_eq_some_iff.mp hq
  have := List.pairwise_iff_getElem.mp h i (1 + i) (by rw [List.length_map]; exact h1) (by rw [List.length_map]; exact h2) (by omega)
  simpa using this
theorem r_arecounters (S : Sto) (L : CL) (h : Rows L) : m_are_counters [.p (.tuple (L.map pairI))] S = some (.p (.bool true), S) := by
  have hlen : ((L.map pairI).length : Int) ≤ 20 := by rw [List.length_map]; have := h.len; omega
  have b1 : ifS (orT (notT (asT (isiF "tuple" (varF 0)))) (asT (binF gtI (argF lenT (consF (varF 0) nilF)) (conF (.int 20))))) (retS (conF (.bool false))) nextS S.length (acE (L.map pairI) none) S = some (.nx, acE (L.map pairI) none, S) := by
    have hl2 : ¬ (20 : Int) < ((L.length : Nat) : Int) := by have := h.len; omega
    refine if_go0 (S' := S) (by simp [hl2]) ?_
    rw [List.take_length]; rfl
  obtain ⟨env', S', e1, hS, x, hx, henv⟩ := loop_inv (gf := nameG 1) (sb := seqS (ifS (orT (notT (asT (isiF "tuple" (varF 1)))) (asT (binF (eqT true) (argF lenT (consF (varF 1) nilF)) (conF (.int 2))))) (retS (conF (.bool false))) nextS) (ifS (orT (notT (asT (callF 3 m_is_int (consF (binF ixT (varF 1) (conF (.int 0))) (consF (conF (.int 0)) (consF (conF (.int 1000)) nilF)))))) (notT (asT (callF 3 m_is_int (consF (binF ixT (varF 1) (conF (.int 1))) (consF (conF (.int 1)) (consF (conF (.int 1000000)) nilF))))))) (retS (conF (.bool false))) nextS)) (n := S.length) (m := S.length) (gd := [])
    (fun _ env S2 => S2 = S ∧ ∃ x : Option T, (∀ t, x = some t → ∃ d, t = .p d) ∧ env = acE (L.map pairI) x)
    (fun _ _ _ _ => gd_nil) (L.map pairI) 0 (acE (L.map pairI) none) S ⟨rfl, none, fun t h => by simp at h, rfl⟩ (fun j d env S2 hd ⟨h1, x, hx, h5⟩ => by
      subst h1 h5
      obtain ⟨p, hp, rfl⟩ := List.mem_map.mp (List.mem_of_getElem? hd)
      refine ⟨acE (L.map pairI) (some (.p (pairI p))), S2, _, _, rfl, ac_body S2 (L.map pairI) p (h.key p hp) (h.cnt p hp) _, List.take_length, some (.p (pairI p)), fun t e => ⟨_, (Option.some.inj e).symm⟩, ?_⟩
      simp [forget, keepSlot, below])
  subst hS henv
  have b2 : forS (tupI (varF 0)) (nameG 1) (seqS (ifS (orT (notT (asT (isiF "tuple" (varF 1)))) (asT (binF (eqT true) (argF lenT (consF (varF 1) nilF)) (conF (.int 2))))) (retS (conF (.bool false))) nextS) (ifS (orT (notT (asT (callF 3 m_is_int (consF (binF ixT (varF 1) (conF (.int 0))) (consF (conF (.int 0)) (consF (conF (.int 1000)) nilF)))))) (notT (asT (callF 3 m_is_int (consF (binF ixT (varF 1) (conF (.int 1))) (consF (conF (.int 1)) (consF (conF (.int 1000000)) nilF))))))) (retS (conF (.bool false))) nextS)) S'.length (acE (L.map pairI) none) S' = some (.nx, acE (L.map pairI) x, S') := by
    have hi : tupI (varF 0) (acE (L.map pairI) none) S' = some (L.map pairI, [], S') := by simp
    rw [s_for_run hi rfl e1, List.take_length]
    cases x with
    | none => simp [forget, keepSlot, below]
    | some t =>
      obtain ⟨d, rfl⟩ := hx t rfl
      simp [forget, keepSlot, below]
  have hc : lcGo (tupG 2 (consG (nameG 2) (consG (nameG 3) nilG))) yesT (binF ltI (binF ixT (varF 2) (conF (.int 0))) (binF ixT (varF 3) (conF (.int 0)))) (wipeE (acE (L.map pairI) x) [2, 3]) S'.length [] (zipD (L.map pairI) ((L.map pairI).drop 1)) [] S' = some (List.replicate (zipD (L.map pairI) ((L.map pairI).drop 1)).length (.bool true), S') := by
    rw [lc_pure (fun _ => true) (fun _ => .bool true) rfl gd_nil _ [] (by have := h.len; simp [zipD]; omega) (fun y acc hy => by
      obtain ⟨p, q, rfl, hpq⟩ := pair_up h.up hy
      refine ⟨[some (.p (.tuple (L.map pairI))), x, some (.p (pairI p)), some (.p (pairI q))], rfl, rfl, fun _ => ?_⟩
      simp [pairI, hpq])]
    rw [List.nil_append, const_map]
  have hz : zipI (consF (varF 0) (consF (sliceF (varF 0) (someO (conF (.int 1))) noO) nilF)) (acE (L.map pairI) x) S' = some (zipD (L.map pairI) ((L.map pairI).drop 1), [], S') := by
    have hs : sliceF (varF 0) (someO (conF (.int 1))) noO (acE (L.map pairI) x) S' = some (.p (.tuple ((L.map pairI).drop 1)), S') := by
      rw [← cutL1]
      simp [sliceF, someO, noO, slT]
    simp [hs]
  have b3 : retS (argF (allT false) (consF (lcF (zipI (consF (varF 0) (consF (sliceF (varF 0) (someO (conF (.int 1))) noO) nilF))) (tupG 2 (consG (nameG 2) (consG (nameG 3) nilG))) yesT (binF ltI (binF ixT (varF 2) (conF (.int 0))) (binF ixT (varF 3) (conF (.int 0)))) [2, 3]) nilF)) S'.length (acE (L.map pairI) x) S'
      = some (.rt (.p (.bool true)), acE (L.map pairI) x, S' ++ [.lst (List.replicate (zipD (L.map pairI) ((L.map pairI).drop 1)).length (.bool true))]) := by
    refine ret_go ?_
    have h9 := e_allL (b := false) (S := S' ++ [.lst (List.replicate (zipD (L.map pairI) ((L.map pairI).drop 1)).length (PyData.bool true))]) (i := S'.length) (bs := List.replicate (zipD (L.map pairI) ((L.map pairI).drop 1)).length true) (by simp)
    rw [if_neg Bool.false_ne_true, all_true] at h9
    rw [e_arg, e_cons, e_lc, hz, Option.bind_some, e_lc1 hc, Option.bind_some, e_cons1, e_nil, Option.map_some, e_cons2, Option.bind_some, e_argK, h9]
  exact m_ret (show seqS _ (seqS _ _) _ _ _ = _ from seq_go b1 (seq_go b2 b3)) (by simp)
end G66
set_option maxHeartbeats 1000000
/-! P66l: merged. -/
namespace G66
open PySem PySem.Spec PyProof.Rows L2 Pv
def addP (M : CL) (p : Int × Int) : CL := put M p.1 ((lk M p.1).getD 0 + p.2)
def both (L1 L2 : CL) : CL := L2.foldl addP L1
def ranks (M : CL) : List Int := (sortI (M.map (·.2))).reverse
def lessOf (many : Int) (M : CL) : Int := if many < ((ranks M).length : Nat) then (ranks M).getD many.toNat 0 else 0
def cutTo (less : Int) (M : CL) : CL := (M.filter fun q => decide (less < q.2)).map fun q => (q.1, q.2 - less)
theorem addP_nd {M : CL} {p : Int × Int} (h : nd M) : nd (addP M p) := put_nd h
theorem both_nd : ∀ (L2 L1 : CL), nd L1 → nd (both L1 L2)
  | [], _, h => h
  | p :: L2, L1, h => both_nd L2 (addP L1 p) (addP_nd h)
theorem addP_len (M : CL) (p : Int × Int) : (addP M p).length ≤ M.length + 1 := by
  unfold addP
  rw [put_len]; split <;> omega
theorem both_len : ∀ (L2 L1 : CL), (both L1 L2).length ≤ L1.length + L2.length
  | [], _ => by simp [both]
  | p :: L2, L1 => by
    have h1 := both_len L2 (addP L1 p)
    have h2 := addP_len L1 p
    show (both (addP L1 p) L2).length ≤ _
    rw [List.length_cons]; omega
/-- the slots of merged -/
abbrev meE (many : Int) (r1 : List D) (t2 : T) (x3 x4 x5 x6 x7 x8 : Option T) : Pv.Env := [some (.p (.int many)), some (.ft r1), some t2, x3, x4, x5, x6, x7, x8]
theorem me_put (S : Sto) (many : Int) (r1 : List D) (t2 : T) (x3 : Option T) (M : CL) (p : Int × Int) (hz : M.length < 100000) (n : Nat) : dputS (varF 4) (varF 5) (binF addT (dgetxF (varF 4) (varF 5) (conF (.int 0))) (varF 6)) n (meE many r1 t2 x3 (some (.loc S.length)) (some (.p (.int p.1))) (some (.p (.int p.2))) none none) (S ++ [.dic (enc M)])
    = some (.nx, meE many r1 t2 x3 (some (.loc S.length)) (some (.p (.int p.1))) (some (.p (.int p.2))) none none, S ++ [.dic (enc (addP M p))]) := by
  have h0 := dictOf_dic (S := S ++ [.dic (enc M)]) (i := S.length) ap0
  have h1 := e_dgetx0 (fi := varF 5) (fx := conF (.int 0)) (env := meE many r1 t2 x3 (some (.loc S.length)) (some (.p (.int p.1))) (some (.p (.int p.2))) none none) h0
  have h2 := e_dgetx2 (v := .p (.int 0)) h0 (key_int p.1)
  rw [val_enc] at h2
  have h3 : ∀ c, dputK2 (meE many r1 t2 x3 (some (.loc S.length)) (some (.p (.int p.1))) (some (.p (.int p.2))) none none) (S.length + 1) (.p (.int c)) (.loc S.length) (.p (.int p.1), S ++ [.dic (enc M)]) = some (.nx, meE many r1 t2 x3 (some (.loc S.length)) (some (.p (.int p.1))) (some (.p (.int p.2))) none none, S ++ [.dic (enc (put M p.1 c))]) := fun c => by
    rw [s_dput2 (kvs := enc M) ap0 (key_int p.1) (by rw [enc_len, sizeLine_eq]; omega), put_enc, st0, tk1]
  unfold addP
  cases e : lk M p.1 with
  | none =>
    rw [e] at h2
    simp [h1, h2, h3]
  | some c =>
    rw [e] at h2
    simp [h1, h2, h3]
end G66
set_option maxHeartbeats 1000000
/-! P66n: merged, its first half. -/
namespace G66
open PySem PySem.Spec PyProof.Rows L2 Pv
theorem me_check (S : Sto) (many : Int) (L1 L2 : CL) (t2 : T) (h2 : many ≤ 20) (ht : dn t2 = .p (.tuple (L2.map pairI))) (hd : ∀ m, below m t2 = true) (r1 : Rows L1) (r2 : Rows L2) (l1 : (L1.length : Int) ≤ many) (l2 : (L2.length : Int) ≤ many) :
    ∃ x3, (∀ t, x3 = some t → ∃ d, t = .p d) ∧ forS (tupI (tupF (consF (varF 1) (consF (varF 2) nilF)))) (nameG 3) (ifS (orT (notT (asT (callF 1 m_are_counters (consF (varF 3) nilF)))) (asT (binF gtI (argF lenT (consF (varF 3) nilF)) (varF 0)))) noneS nextS) S.length (meE many (L1.map pairI) t2 none none none none none none) S
      = some (.nx, meE many (L1.map pairI) t2 x3 none none none none none, S) := by
  have body : ∀ L : CL, Rows L → (L.length : Int) ≤ many → ifS (orT (notT (asT (callF 1 m_are_counters (consF (varF 3) nilF)))) (asT (binF gtI (argF lenT (consF (varF 3) nilF)) (varF 0)))) noneS nextS S.length (meE many (L1.map pairI) t2 (some (.p (.tuple (L.map pairI)))) none none none none none) S
      = some (.nx, meE many (L1.map pairI) t2 (some (.p (.tuple (L.map pairI)))) none none none none none, S) := fun L hL hl => by
    have a := r_arecounters S L hL
    have hl' : ¬ many < (L.length : Int) := by omega
    refine if_go0 (S' := S) (by simp [a, hl']) ?_
    rw [List.take_length]; rfl
  have keep : ∀ x3 : Option T, (∀ t, x3 = some t → ∃ d, t = .p d) → ∀ m, forget m (meE many (L1.map pairI) t2 x3 none none none none none) = meE many (L1.map pairI) t2 x3 none none none none none := fun x3 hx m => by
    have hb := hd m
    cases x3 with
    | none => simp [forget, keepSlot, below, hb]
    | some t =>
      obtain ⟨d, rfl⟩ := hx t rfl
      simp [forget, keepSlot, below, hb]
  obtain ⟨env', S', e1, hS, x, hx, henv⟩ := loop_inv (gf := nameG 3) (sb := ifS (orT (notT (asT (callF 1 m_are_counters (consF (varF 3) nilF)))) (asT (binF gtI (argF lenT (consF (varF 3) nilF)) (varF 0)))) noneS nextS) (n := S.length) (m := S.length) (gd := [])
    (fun _ env S2 => S2 = S ∧ ∃ x : Option T, (∀ t, x = some t → ∃ d, t = .p d) ∧ env = meE many (L1.map pairI) t2 x none none none none none)
    (fun _ _ _ _ => gd_nil) [.tuple (L1.map pairI), .tuple (L2.map pairI)] 0 (meE many (L1.map pairI) t2 none none none none none none) S ⟨rfl, none, fun t h => by simp at h, rfl⟩ (fun j d env S2 hd' ⟨h1, x, hx, h5⟩ => by
      subst h1 h5
      have hm := List.mem_of_getElem? hd'
      have : d = .tuple (L1.map pairI) ∨ d = .tuple (L2.map pairI) := by simpa using hm
      rcases this with rfl | rfl
      · exact ⟨_, S2, _, _, rfl, body L1 r1 l1, List.take_length, some (.p (.tuple (L1.map pairI))), fun t e => ⟨_, (Option.some.inj e).symm⟩, keep _ (fun t e => ⟨_, (Option.some.inj e).symm⟩) _⟩
      · exact ⟨_, S2, _, _, rfl, body L2 r2 l2, List.take_length, some (.p (.tuple (L2.map pairI))), fun t e => ⟨_, (Option.some.inj e).symm⟩, keep _ (fun t e => ⟨_, (Option.some.inj e).symm⟩) _⟩)
  subst hS henv
  refine ⟨x, hx, ?_⟩
  have hi : tupI (tupF (consF (varF 1) (consF (varF 2) nilF))) (meE many (L1.map pairI) t2 none none none none none none) S' = some ([.tuple (L1.map pairI), .tuple (L2.map pairI)], [], S') := by
    simp [ht, tupT, allP]
  rw [s_for_run hi rfl e1, List.take_length, keep x hx]
theorem me_dict (S : Sto) (many : Int) (L1 : CL) (t2 : T) (x3 : Option T) (hn : nd L1) : setS 4 (argF dictFT (consF (rawF 1) nilF)) S.length (meE many (L1.map pairI) t2 x3 none none none none none) S = some (.nx, meE many (L1.map pairI) t2 x3 (some (.loc S.length)) none none none none, S ++ [.dic (enc L1)]) := by
  have h9 := e_dictF (S := S) (pairsOf_enc L1)
  rw [merge_enc hn] at h9
  have hv : argF dictFT (consF (rawF 1) nilF) (meE many (L1.map pairI) t2 x3 none none none none none) S = some (.loc S.length, S ++ [.dic (enc L1)]) := by simp [h9]
  rw [s_set, hv, Option.bind_some, s_set1, gc_new rfl, Option.map_some, s_set2l]
  rfl
theorem me_loop (S : Sto) (many : Int) (r1 : List D) (L1 L2 : CL) (t2 : T) (x3 : Option T) (ht : dn t2 = .p (.tuple (L2.map pairI))) (hd : ∀ m, below m t2 = true) (hx3 : ∀ t, x3 = some t → ∃ d, t = .p d) (l1 : L1.length ≤ 20) (l2 : L2.length ≤ 20) :
    ∃ x5 x6, (∀ t, x5 = some t → ∃ d, t = .p d) ∧ (∀ t, x6 = some t → ∃ d, t = .p d) ∧ forS (tupI (varF 2)) (tupG 2 (consG (nameG 5) (consG (nameG 6) nilG))) (dputS (varF 4) (varF 5) (binF addT (dgetxF (varF 4) (varF 5) (conF (.int 0))) (varF 6))) S.length (meE many r1 t2 x3 (some (.loc S.length)) none none none none) (S ++ [.dic (enc L1)])
      = some (.nx, meE many r1 t2 x3 (some (.loc S.length)) x5 x6 none none, S ++ [.dic (enc (both L1 L2))]) := by
  have keep : ∀ x5 x6 : Option T, (∀ t, x5 = some t → ∃ d, t = .p d) → (∀ t, x6 = some t → ∃ d, t = .p d) → ∀ m, S.length < m → forget m (meE many r1 t2 x3 (some (.loc S.length)) x5 x6 none none) = meE many r1 t2 x3 (some (.loc S.length)) x5 x6 none none := fun x5 x6 h5 h6 m hm => by
    have hb := hd m
    have kp : ∀ x : Option T, (∀ t, x = some t → ∃ d, t = .p d) → keepSlot m x = x := fun x hx => by
      cases x with
      | none => rfl
      | some t => obtain ⟨d, rfl⟩ := hx t rfl; rfl
    simp only [forget, List.map_cons, List.map_nil, kp x3 hx3, kp x5 h5, kp x6 h6]
    simp [keepSlot, below, hb, hm]
  have e0 : (S ++ [O.dic (enc L1)]).length = S.length + 1 := by simp
  obtain ⟨env', S', e1, hS, x5, x6, h5, h6, henv⟩ := loop_inv (gf := tupG 2 (consG (nameG 5) (consG (nameG 6) nilG))) (sb := dputS (varF 4) (varF 5) (binF addT (dgetxF (varF 4) (varF 5) (conF (.int 0))) (varF 6))) (n := S.length) (m := S.length + 1) (gd := [])
    (fun i env S2 => S2 = S ++ [.dic (enc (both L1 (L2.take i)))] ∧ ∃ x5 x6 : Option T, (∀ t, x5 = some t → ∃ d, t = .p d) ∧ (∀ t, x6 = some t → ∃ d, t = .p d) ∧ env = meE many r1 t2 x3 (some (.loc S.length)) x5 x6 none none)
    (fun _ _ _ _ => gd_nil) (L2.map pairI) 0 (meE many r1 t2 x3 (some (.loc S.length)) none none none none) (S ++ [.dic (enc L1)]) ⟨rfl, none, none, fun t h => by simp at h, fun t h => by simp at h, rfl⟩ (fun j d env S2 hd' ⟨h1, x5, x6, h5, h6, h7⟩ => by
      rw [Nat.zero_add] at h1 ⊢
      subst h1 h7
      rw [List.getElem?_map] at hd'
      obtain ⟨p, hp, rfl⟩ := Option.map_eq_some_iff.mp hd'
      have hb := both_len (L2.take j) L1
      have hl : (L2.take j).length ≤ 20 := by rw [List.length_take]; omega
      have et : both L1 (L2.take (j + 1)) = addP (both L1 (L2.take j)) p := by
        unfold both
        rw [List.take_succ, hp, List.foldl_append]; rfl
      refine ⟨meE many r1 t2 x3 (some (.loc S.length)) (some (.p (.int p.1))) (some (.p (.int p.2))) none none, _, _, _, by simp [pairI], me_put S many r1 t2 x3 (both L1 (L2.take j)) p (by omega) _, ?_, some (.p (.int p.1)), some (.p (.int p.2)), fun t e => ⟨_, (Option.some.inj e).symm⟩, fun t e => ⟨_, (Option.some.inj e).symm⟩, ?_⟩
      · rw [et]; exact List.take_of_length_le (by simp)
      · exact keep _ _ (fun t e => ⟨_, (Option.some.inj e).symm⟩) (fun t e => ⟨_, (Option.some.inj e).symm⟩) _ (Nat.lt_succ_self _))
  subst hS henv
  rw [Nat.zero_add, List.length_map, List.take_length] at e1
  refine ⟨x5, x6, h5, h6, ?_⟩
  have hi : tupI (varF 2) (meE many r1 t2 x3 (some (.loc S.length)) none none none none) (S ++ [.dic (enc L1)]) = some (L2.map pairI, [], S ++ [.dic (enc L1)]) := by simp [ht]
  rw [s_for_run hi e0 e1, e0, keep x5 x6 h5 h6 _ (Nat.lt_succ_self _), List.take_of_length_le (by simp)]
end G66
set_option maxHeartbeats 1000000
/-! P66o: merged, whole. -/
namespace G66
open PySem PySem.Spec PyProof.Rows L2 Pv
theorem enc_vals (M : CL) : (enc M).map (·.2) = (M.map (·.2)).map PyData.int := by
  unfold enc; rw [List.map_map, List.map_map]; rfl
theorem me_ranks (S : Sto) (many : Int) (r1 : List D) (M : CL) (t2 : T) (x3 x5 x6 : Option T) : setS 7 (revF (sortedVF (varF 4))) S.length (meE many r1 t2 x3 (some (.loc S.length)) x5 x6 none none) (S ++ [.dic (enc M)])
    = some (.nx, meE many r1 t2 x3 (some (.loc S.length)) x5 x6 (some (.loc (S.length + 1))) none, S ++ [.dic (enc M), .lst ((ranks M).map PyData.int)]) := by
  have hd := dictOf_dic (S := S ++ [O.dic (enc M)]) (i := S.length) ap0
  have hv : revF (sortedVF (varF 4)) (meE many r1 t2 x3 (some (.loc S.length)) x5 x6 none none) (S ++ [.dic (enc M)]) = some (.loc (S.length + 2), S ++ [.dic (enc M), .lst ((sortI (M.map (·.2))).map PyData.int), .lst ((ranks M).map PyData.int)]) := by
    have h1 : sortedVF (varF 4) (meE many r1 t2 x3 (some (.loc S.length)) x5 x6 none none) (S ++ [.dic (enc M)]) = some (.loc (S.length + 1), S ++ [.dic (enc M), .lst ((sortI (M.map (·.2))).map PyData.int)]) := by
      unfold sortedVF
      rw [show varF 4 (meE many r1 t2 x3 (some (.loc S.length)) x5 x6 none none) (S ++ [O.dic (enc M)]) = some (.loc S.length, S ++ [O.dic (enc M)]) by simp, Option.bind_some]
      simp only [hd, Option.bind_some, enc_vals, sortD_ints, Option.map_some]
      simp
    unfold revF
    rw [h1, Option.bind_some]
    simp [lstOf, ranks, List.map_reverse]
  have e0 : (S ++ [O.dic (enc M)]).length = S.length + 1 := by simp
  have g : gcV (S.length + 1) (.loc (S.length + 2)) (S ++ [O.dic (enc M), O.lst ((sortI (M.map (·.2))).map PyData.int), O.lst ((ranks M).map PyData.int)]) = some (.loc (S.length + 1), S ++ [O.dic (enc M), O.lst ((ranks M).map PyData.int)]) := by
    have h1 : ¬ (S.length + 2 < S.length + 1) := by omega
    have t1 : (S ++ [O.dic (enc M), O.lst ((sortI (M.map (·.2))).map PyData.int), O.lst ((ranks M).map PyData.int)]).take (S.length + 1) = S ++ [O.dic (enc M)] := by
      have := List.take_length_add_append (l₁ := S) (l₂ := [O.dic (enc M), O.lst ((sortI (M.map (·.2))).map PyData.int), O.lst ((ranks M).map PyData.int)]) 1
      simpa using this
    simp [gcV, gcT, gcOb, h1, t1]
  rw [s_set, hv, Option.bind_some, s_set1, e0, g, Option.map_some, s_set2l]
  rfl
theorem me_less (S : Sto) (many : Int) (r1 : List D) (M : CL) (t2 : T) (x3 x5 x6 : Option T) (h1 : 0 ≤ many) : setS 8 (ifF (asT (binF gtI (argF lenT (consF (varF 7) nilF)) (varF 0))) (binF ixT (varF 7) (varF 0)) (conF (.int 0))) S.length (meE many r1 t2 x3 (some (.loc S.length)) x5 x6 (some (.loc (S.length + 1))) none) (S ++ [.dic (enc M), .lst ((ranks M).map PyData.int)])
    = some (.nx, meE many r1 t2 x3 (some (.loc S.length)) x5 x6 (some (.loc (S.length + 1))) (some (.p (.int (lessOf many M)))), S ++ [.dic (enc M), .lst ((ranks M).map PyData.int)]) := by
  have hl := e_lenL (S := S ++ [O.dic (enc M), O.lst ((ranks M).map PyData.int)]) (i := S.length + 1) (ds := (ranks M).map PyData.int) (by simp)
  have hx := e_ixL (S := S ++ [O.dic (enc M), O.lst ((ranks M).map PyData.int)]) (i := S.length + 1) (ds := (ranks M).map PyData.int) (k := many) (by simp)
  rw [List.length_map] at hl
  unfold lessOf
  by_cases h : many < ((ranks M).length : Nat)
  · have ha : atI ((ranks M).map PyData.int) many = some (.int ((ranks M).getD many.toNat 0)) := by
      have e : ((ranks M).map PyData.int)[many.toNat]? = some (.int ((ranks M).getD many.toNat 0)) := by
        rw [List.getElem?_map, List.getElem?_eq_getElem (by omega : many.toNat < (ranks M).length)]
        simp [List.getD, List.getElem?_eq_getElem (by omega : many.toNat < (ranks M).length)]
      have := atI_nat e
      rwa [show ((many.toNat : Nat) : Int) = many by omega] at this
    rw [ha] at hx
    have hv : ifF (asT (binF gtI (argF lenT (consF (varF 7) nilF)) (varF 0))) (binF ixT (varF 7) (varF 0)) (conF (.int 0)) (meE many r1 t2 x3 (some (.loc S.length)) x5 x6 (some (.loc (S.length + 1))) none) (S ++ [.dic (enc M), .lst ((ranks M).map PyData.int)]) = some (.p (.int ((ranks M).getD many.toNat 0)), S ++ [.dic (enc M), .lst ((ranks M).map PyData.int)]) := by
      simp [hl, hx, h]
    rw [if_pos h, s_set, hv, Option.bind_some, s_set1, gc_p, Option.map_some, s_set2, List.take_length]
    rfl
  · have hv : ifF (asT (binF gtI (argF lenT (consF (varF 7) nilF)) (varF 0))) (binF ixT (varF 7) (varF 0)) (conF (.int 0)) (meE many r1 t2 x3 (some (.loc S.length)) x5 x6 (some (.loc (S.length + 1))) none) (S ++ [.dic (enc M), .lst ((ranks M).map PyData.int)]) = some (.p (.int 0), S ++ [.dic (enc M), .lst ((ranks M).map PyData.int)]) := by
      simp [hl, h]
    rw [if_neg h, s_set, hv, Option.bind_some, s_set1, gc_p, Option.map_some, s_set2, List.take_length]
    rfl
end G66
set_option maxHeartbeats 1000000
/-! P66q: merged, what it hands back. -/
namespace G66
open PySem PySem.Spec PyProof.Rows L2 Pv
theorem me_rows (S : Sto) (many : Int) (r1 : List D) (M : CL) (t2 : T) (x3 x5 x6 : Option T) (less : Int) (R : O) (hz : M.length < 50000) (hn : nd M) :
    lockF 4 (lcF (keysI (varF 4)) (nameG 5) (asT (binF gtI (dgetF (varF 4) (varF 5)) (varF 8))) (tupF (consF (varF 5) (consF (binF subI (dgetF (varF 4) (varF 5)) (varF 8)) nilF))) [5]) (meE many r1 t2 x3 (some (.loc S.length)) x5 x6 (some (.loc (S.length + 1))) (some (.p (.int less)))) (S ++ [.dic (enc M), R])
    = some (.loc (S.length + 2), S ++ [.dic (enc M), R, .lst ((cutTo less M).map pairI)]) := by
  have e2 : (S ++ [O.lck (enc M), R]).length = S.length + 2 := by simp
  have key : lcGo (nameG 5) (asT (binF gtI (dgetF (varF 4) (varF 5)) (varF 8))) (tupF (consF (varF 5) (consF (binF subI (dgetF (varF 4) (varF 5)) (varF 8)) nilF))) (wipeE (meE many r1 t2 x3 (some (.loc S.length)) x5 x6 (some (.loc (S.length + 1))) (some (.p (.int less)))) [5]) (S ++ [O.lck (enc M), R]).length [(S.length, .lck (enc M))] ((enc M).map fun z => dK z.1) [] (S ++ [O.lck (enc M), R])
      = some ((M.filter fun q => decide (less < q.2)).map fun q => pairI (q.1, q.2 - less), S ++ [O.lck (enc M), R]) := by
    have hgd : GdOk [(S.length, O.lck (enc M))] (S ++ [O.lck (enc M), R]) := fun p hp => by
      have : p = (S.length, O.lck (enc M)) := by simpa using hp
      subst this; simp
    rw [lc_pure (fun x => match x with | .int k => decide (less < (lk M k).getD 0) | _ => false) (fun x => match x with | .int k => .tuple [.int k, .int ((lk M k).getD 0 - less)] | _ => .none) rfl hgd ((enc M).map fun z => dK z.1) [] (by simp [enc_len]; omega) (fun x acc hx => by
        obtain ⟨z, hz, rfl⟩ := List.mem_map.mp hx
        obtain ⟨q, hq, rfl⟩ := List.mem_map.mp hz
        have hl := mem_lk hn hq
        have eS : S ++ [O.lck (enc M), R] ++ [O.lst acc] = S ++ [O.lck (enc M), R, O.lst acc] := by simp
        rw [eS]
        have h1 := e_dget1 (S := S ++ [O.lck (enc M), R, O.lst acc]) (i := S.length) (d := .int q.1) (dictOf_lck (kvs := enc M) (by simp)) (key_int q.1)
        rw [val_enc, hl] at h1
        refine ⟨[some (.p (.int many)), some (.ft r1), some t2, x3, some (.loc S.length), some (.p (.int q.1)), x6, some (.loc (S.length + 1)), some (.p (.int less))], rfl, ?_, fun _ => ?_⟩
        · simp [dK, hl, h1]
        · simp [dK, hl, h1, tupT, allP])]
    rw [List.nil_append]
    exact congrArg (fun l => some (l, S ++ [O.lck (enc M), R])) (lk_rows M (fun c => decide (less < c)) (fun c => c - less) M fun q hq => mem_lk hn hq)
  have hb : lcF (keysI (varF 4)) (nameG 5) (asT (binF gtI (dgetF (varF 4) (varF 5)) (varF 8))) (tupF (consF (varF 5) (consF (binF subI (dgetF (varF 4) (varF 5)) (varF 8)) nilF))) [5] (meE many r1 t2 x3 (some (.loc S.length)) x5 x6 (some (.loc (S.length + 1))) (some (.p (.int less)))) (S ++ [O.lck (enc M), R]) = some (.loc (S.length + 2), S ++ [O.lck (enc M), R, O.lst ((cutTo less M).map pairI)]) := by
    have hk := i_keysK (S := S ++ [O.lck (enc M), R]) (i := S.length) (kvs := enc M) (by simp)
    rw [e_lc, i_keys]
    rw [show varF 4 (meE many r1 t2 x3 (some (.loc S.length)) x5 x6 (some (.loc (S.length + 1))) (some (.p (.int less)))) (S ++ [O.lck (enc M), R]) = some (.loc S.length, S ++ [O.lck (enc M), R]) by simp, Option.bind_some, hk, Option.bind_some, e_lc1 key, e2]
    unfold cutTo
    rw [List.map_map]
    simp only [List.append_assoc, List.cons_append, List.nil_append]
    rfl
  have st : ∀ (a b c : O), (S ++ [a, c]).set S.length b = S ++ [b, c] := fun a b c => by simp
  have := e_lock (i := 4) (j := S.length) (env := meE many r1 t2 x3 (some (.loc S.length)) x5 x6 (some (.loc (S.length + 1))) (some (.p (.int less)))) (S := S ++ [O.dic (enc M), R]) (kvs := enc M) rfl (by simp) (by rw [st]; exact hb) (by simp)
  rw [this]
  simp
theorem r_merged (S : Sto) (many : Int) (L1 L2 : CL) (t2 : T) (h1 : 1 ≤ many) (h2 : many ≤ 20) (ht : dn t2 = .p (.tuple (L2.map pairI))) (hd : ∀ m, below m t2 = true) (r1 : Rows L1) (r2 : Rows L2) (l1 : (L1.length : Int) ≤ many) (l2 : (L2.length : Int) ≤ many) :
    m_merged [.p (.int many), .ft (L1.map pairI), t2] S = some (.p (.tuple [.tuple ((sortP (cutTo (lessOf many (both L1 L2)) (both L1 L2))).map pairI), .int (lessOf many (both L1 L2))]), S) := by
  have n1 : nd L1 := List.nodup_iff_pairwise_ne.mpr (r1.up.imp fun h => by omega)
  have nB := both_nd L2 L1 n1
  have lB := both_len L2 L1
  have a1 := r_many S many h1 h2
  have b1 : exprS (callF 1 m_look_at_many (consF (varF 0) nilF)) S.length (meE many (L1.map pairI) t2 none none none none none none) S = some (.nx, meE many (L1.map pairI) t2 none none none none none none, S) := by simp [a1]
  obtain ⟨x3, hx3, b2⟩ := me_check S many L1 L2 t2 h2 ht hd r1 r2 l1 l2
  have b3 := me_dict S many L1 t2 x3 n1
  obtain ⟨x5, x6, hx5, hx6, b4⟩ := me_loop S many (L1.map pairI) L1 L2 t2 x3 ht hd hx3 r1.len r2.len
  have b5 := me_ranks S many (L1.map pairI) (both L1 L2) t2 x3 x5 x6
  have b6 := me_less S many (L1.map pairI) (both L1 L2) t2 x3 x5 x6 (by omega)
  have b7 := me_rows S many (L1.map pairI) (both L1 L2) t2 x3 x5 x6 (lessOf many (both L1 L2)) (.lst ((ranks (both L1 L2)).map PyData.int)) (by have := r1.len; have := r2.len; omega) nB
  have h8 := e_sorted (S := S ++ [O.dic (enc (both L1 L2)), O.lst ((ranks (both L1 L2)).map PyData.int), O.lst ((cutTo (lessOf many (both L1 L2)) (both L1 L2)).map pairI)]) (i := S.length + 2) (by simp) (sortD_pairs' (cutTo (lessOf many (both L1 L2)) (both L1 L2)))
  have h9 := e_tuple (S := S ++ [O.dic (enc (both L1 L2)), O.lst ((ranks (both L1 L2)).map PyData.int), O.lst ((cutTo (lessOf many (both L1 L2)) (both L1 L2)).map pairI), O.lst ((sortP (cutTo (lessOf many (both L1 L2)) (both L1 L2))).map pairI)]) (i := S.length + 3) (ds := (sortP (cutTo (lessOf many (both L1 L2)) (both L1 L2))).map pairI) (by simp)
  simp only [List.append_assoc, List.cons_append, List.nil_append, List.length_append, List.length_cons, List.length_nil] at h8
  have b8 : retS (tupF (consF (argF tupleT (consF (argF sortedT (consF (lockF 4 (lcF (keysI (varF 4)) (nameG 5) (asT (binF gtI (dgetF (varF 4) (varF 5)) (varF 8))) (tupF (consF (varF 5) (consF (binF subI (dgetF (varF 4) (varF 5)) (varF 8)) nilF))) [5])) nilF)) nilF)) (consF (varF 8) nilF))) S.length (meE many (L1.map pairI) t2 x3 (some (.loc S.length)) x5 x6 (some (.loc (S.length + 1))) (some (.p (.int (lessOf many (both L1 L2)))))) (S ++ [.dic (enc (both L1 L2)), .lst ((ranks (both L1 L2)).map PyData.int)])
      = some (.rt (.p (.tuple [.tuple ((sortP (cutTo (lessOf many (both L1 L2)) (both L1 L2))).map pairI), .int (lessOf many (both L1 L2))])), meE many (L1.map pairI) t2 x3 (some (.loc S.length)) x5 x6 (some (.loc (S.length + 1))) (some (.p (.int (lessOf many (both L1 L2))))), S ++ [O.dic (enc (both L1 L2)), O.lst ((ranks (both L1 L2)).map PyData.int), O.lst ((cutTo (lessOf many (both L1 L2)) (both L1 L2)).map pairI), O.lst ((sortP (cutTo (lessOf many (both L1 L2)) (both L1 L2))).map pairI)]) := by
    refine ret_go ?_
    rw [e_tup, e_cons, e_arg, e_cons, e_arg, e_cons, b7]
    simp [h8, h9, tupT, allP]
  refine m_ret (show seqS _ (seqS _ (seqS _ (seqS _ (seqS _ (seqS _ _))))) _ _ _ = _ from seq_go b1 (seq_go b2 (seq_go b3 (seq_go b4 (seq_go b5 (seq_go b6 b8)))))) ?_
  simp
end G66
set_option maxHeartbeats 1000000
/-! P66r: plain facts of amounts and of counters by turns. -/
namespace G66
open PySem PySem.Spec PyProof.Rows L2 Pv
def cntO (fs : List Int) (f : Int) : Option Int := if f ∈ fs then some (fs.count f : Int) else none
theorem cntO_app (fs : List Int) (f g : Int) : cntO (fs ++ [f]) g = if g = f then some ((cntO fs f).getD 0 + 1) else cntO fs g := by
  unfold cntO
  by_cases h : g = f
  · subst h
    rw [if_pos rfl, if_pos (by simp), List.count_append, List.count_singleton_self]
    by_cases hm : g ∈ fs
    · rw [if_pos hm]; simp
    · rw [if_neg hm, List.count_eq_zero.mpr hm]; simp
  · rw [if_neg h]
    have h2 : [f].count g = 0 := List.count_eq_zero.mpr (by simpa using h)
    rw [List.count_append, h2, Nat.add_zero]
    by_cases hm : g ∈ fs
    · rw [if_pos hm, if_pos (by simp [hm])]
    · rw [if_neg hm, if_neg (by simp [hm, h])]
theorem amt_lk (fs : List Int) : ∀ f, lk (amt fs) f = cntO fs f := by
  suffices H : ∀ (gs fs : List Int) (L : CL), (∀ f, lk L f = cntO fs f) → ∀ f, lk (gs.foldl (fun L f => put L f ((lk L f).getD 0 + 1)) L) f = cntO (fs ++ gs) f by
    have := H fs [] [] fun f => by simp [lk, cntO]
    simpa [amt] using this
  intro gs
  induction gs with
  | nil => exact fun fs L h f => by rw [List.append_nil]; exact h f
  | cons g gs ih =>
    intro fs L h f
    have := ih (fs ++ [g]) (put L g ((lk L g).getD 0 + 1)) (fun k => by rw [lk_put, cntO_app, h, h]) f
    rw [List.append_assoc] at this
    exact this
theorem mem_of_lk {L : CL} {f c : Int} (h : lk L f = some c) : (f, c) ∈ L := by
  unfold lk at h
  obtain ⟨p, hp, rfl⟩ := Option.map_eq_some_iff.mp h
  have h1 := List.mem_of_find?_eq_some hp
  have h2 : p.1 = f := by
    have := List.find?_some (p := fun p : Int × Int => decide (p.1 = f)) hp
    exact of_decide_eq_true this
  rw [← h2]
  exact h1
/-- the heavy ones are just those -/
theorem mem_hv {parts : Int} {fs : List Int} {f : Int} : f ∈ hv parts fs ↔ f ∈ fs ∧ (fs.length : Int) < fs.count f * parts := by
  unfold hv
  rw [List.mem_map]
  constructor
  · rintro ⟨q, hq, rfl⟩
    obtain ⟨h1, h2⟩ := List.mem_filter.mp hq
    have hl := mem_lk (amt_nd fs) h1
    rw [amt_lk] at hl
    unfold cntO at hl
    split at hl
    · next hm =>
      refine ⟨hm, ?_⟩
      rw [Option.some.inj hl]
      exact of_decide_eq_true h2
    · cases hl
  · rintro ⟨hm, h⟩
    have hl : lk (amt fs) f = some (fs.count f : Int) := by rw [amt_lk]; unfold cntO; rw [if_pos hm]
    exact ⟨(f, fs.count f), List.mem_filter.mpr ⟨mem_of_lk hl, decide_eq_true h⟩, rfl⟩
theorem hv_nd (parts : Int) (fs : List Int) : (hv parts fs).Nodup := (amt_nd fs).sublist ((List.filter_sublist (l := amt fs)).map _)
theorem nd_le : ∀ (l m : List Int), l.Nodup → (∀ x ∈ l, x ∈ m) → l.length ≤ m.length
  | [], _, _, _ => Nat.zero_le _
  | x :: l, m, h, hs => by
    rw [List.nodup_cons] at h
    have hx := hs x List.mem_cons_self
    have := nd_le l (m.erase x) h.2 fun y hy => by
      have ne : y ≠ x := fun e => h.1 (e ▸ hy)
      exact (List.mem_erase_of_ne ne).mpr (hs y (List.mem_cons_of_mem _ hy))
    rw [List.length_erase_of_mem hx] at this
    have := List.length_pos_of_mem hx
    rw [List.length_cons]; omega
/-- so few flows that none is lessened -/
theorem mg_few {many : Int} {ns : List Int} (hn : (ns.length : Int) ≤ many) : ∀ fs : List Int, (∀ f ∈ fs, f ∈ ns) → (mg many fs).2 = 0 := by
  suffices H : ∀ (fs : List Int) (s : CL × Int), nd s.1 → s.2 = 0 → (∀ k ∈ s.1.map (·.1), k ∈ ns) → (∀ f ∈ fs, f ∈ ns) → (fs.foldl (mgStep many) s).2 = 0 by
    exact fun fs h => H fs ([], 0) List.nodup_nil rfl (fun k hk => by simp at hk) h
  intro fs
  induction fs with
  | nil => exact fun s _ h _ _ => h
  | cons f fs ih =>
    intro s h1 h2 h3 h4
    have hf := h4 f List.mem_cons_self
    have hc : has s.1 f = true ∨ (s.1.length : Int) < many := by
      by_cases hh : has s.1 f = true
      · exact .inl hh
      · right
        have h5 : ((f :: s.1.map (·.1)) : List Int).length ≤ ns.length := nd_le _ _ (List.nodup_cons.mpr ⟨fun z => hh (has_mem.mpr z), h1⟩) fun y hy => by
          rcases List.mem_cons.mp hy with rfl | hy
          · exact hf
          · exact h3 y hy
        rw [List.length_cons, List.length_map] at h5
        omega
    have e : mgStep many s f = (put s.1 f ((lk s.1 f).getD 0 + 1), s.2) := if_pos hc
    rw [List.foldl_cons, e]
    refine ih _ (put_nd h1) h2 (fun k hk => ?_) fun g hg => h4 g (List.mem_cons_of_mem _ hg)
    obtain ⟨p, hp, rfl⟩ := List.mem_map.mp hk
    rcases put_mem hp with hp | rfl
    · exact h3 _ (List.mem_map_of_mem hp)
    · exact hf
/-- one round of many flows and one more, from nothing -/
theorem mg_ones {many : Int} : ∀ (ns : List Int) (L : CL) (k : Int), (L.map (·.1) ++ ns).Nodup → (L.length : Int) + ns.length ≤ many → ns.foldl (mgStep many) (L, k) = (L ++ ns.map fun n => (n, 1), k)
  | [], L, k, _, _ => by simp
  | n :: ns, L, k, hn, hl => by
    rw [List.length_cons] at hl
    have h0 : has L n = false := by
      cases e : has L n with
      | false => rfl
      | true =>
        rw [List.nodup_append] at hn
        exact absurd rfl (hn.2.2 n (has_mem.mp e) n List.mem_cons_self)
    have e : mgStep many (L, k) n = (L ++ [(n, 1)], k) := by
      unfold mgStep
      rw [if_pos (.inr (by show (L.length : Int) < many; omega))]
      unfold put
      show (if has L n = true then _ else _, k) = _
      rw [h0, if_neg Bool.false_ne_true, lk_none h0]
      rfl
    rw [List.foldl_cons, e, mg_ones ns (L ++ [(n, 1)]) k (by simpa using hn) (by simp; omega)]
    simp
theorem mg_round {many : Int} {ns : List Int} {x : Int} (k : Int) (hn : (ns ++ [x]).Nodup) (hl : (ns.length : Int) = many) : (ns ++ [x]).foldl (mgStep many) ([], k) = ([], k + 1) := by
  rw [List.foldl_append, mg_ones ns [] k (by simpa using (List.nodup_append.mp hn).1) (by simp; omega)]
  have hx : has ([] ++ ns.map fun n => (n, (1 : Int))) x = false := by
    cases e : has ([] ++ ns.map fun n => (n, (1 : Int))) x with
    | false => rfl
    | true =>
      have := has_mem.mp e
      simp at this
      exact absurd rfl ((List.nodup_append.mp hn).2.2 x this x (by simp))
  show mgStep many ([] ++ ns.map fun n => (n, (1 : Int)), k) x = _
  unfold mgStep
  rw [if_neg (fun h => by
    rcases h with h | h
    · rw [hx] at h; cases h
    · simp at h; omega)]
  have : dec (ns.map fun n => (n, (1 : Int))) = [] := by
    unfold dec
    rw [List.map_eq_nil_iff, List.filter_eq_nil_iff]
    intro p hp
    obtain ⟨n, _, rfl⟩ := List.mem_map.mp hp
    simp
  rw [List.nil_append, this]
theorem mg_rounds {many : Int} {ns : List Int} {x : Int} (hn : (ns ++ [x]).Nodup) (hl : (ns.length : Int) = many) : ∀ (r : Nat) (k : Int), ((List.replicate r (ns ++ [x])).flatten).foldl (mgStep many) ([], k) = ([], k + r)
  | 0, k => by simp
  | r + 1, k => by
    rw [List.replicate_succ, List.flatten_cons, List.foldl_append, mg_round k hn hl, mg_rounds hn hl r (k + 1)]
    simp; omega
end G66
set_option maxHeartbeats 1000000
/-! P66s: the cells. -/
namespace G66
open PySem PySem.Spec PyProof.Rows L2 Pv
def cellsN (ns : List Int) : Nat := max 1 (min 3 ns.length)
theorem lrg_ok {fe : EF} {env : Pv.Env} {S S' : Sto} {c : Nat} (h : fe env S = some (.p (.int (c : Int)), S')) (hc : c ≤ 1000000) : lrg1F fe env S = some (.loc S'.length, S' ++ [.lst (rgD 0 c)]) := by
  unfold lrg1F
  rw [h, Option.bind_some]
  simp only
  rw [if_pos (RgOk.of_le (by omega) (by omega) (by omega) (by omega))]
theorem r_cells (S : Sto) (ns : List Int) : m__law_cells [.ro (ns.map PyData.int), .p (.int 3)] S = some (.loc S.length, S ++ [.lst (rgD 0 (cellsN ns : Nat))]) := by
  have hv : argF max2T (consF (conF (.int 1)) (consF (argF min2T (consF (varF 1) (consF (argF lenT (consF (varF 0) nilF)) nilF))) nilF)) [some (.ro (ns.map PyData.int)), some (.p (.int 3))] S = some (.p (.int ((cellsN ns : Nat) : Int)), S) := by
    have e : (if (if ((ns.length : Nat) : Int) < 3 then ((ns.length : Nat) : Int) else 3) > 1 then (if ((ns.length : Nat) : Int) < 3 then ((ns.length : Nat) : Int) else 3) else 1) = ((cellsN ns : Nat) : Int) := by
      unfold cellsN
      split <;> split <;> omega
    rw [← e]
    simp
  have b1 := lrg_ok hv (by unfold cellsN; omega)
  exact m_ret (show retS _ _ _ _ = _ from ret_go b1) (gc_new rfl)
end G66
set_option maxHeartbeats 1000000
/-! P66t: the pot made. -/
namespace G66
open PySem PySem.Spec PyProof.Rows L2 Pv
abbrev ptE (ns : List Int) (place : Int) (x2 x3 x4 : Option T) : Pv.Env := [some (.ro (ns.map PyData.int)), some (.p (.int place)), x2, x3, x4]
theorem pot_cell (S : Sto) (ns : List Int) (place : Nat) (hp : place ≤ 10) : ∃ c : Int, setS 2 (ifF (asT (binF ltI (varF 1) (argF lenT (consF (varF 0) nilF)))) (binF ixT (varF 0) (varF 1)) (binF addT (binF addT (binF modI (argF intT (consF (argF sumT (consF (sliceF (varF 0) noO (someO (conF (.int 1)))) nilF)) nilF)) (conF (.int 1000291))) (binF mulI (conF (.int 7351)) (varF 1))) (conF (.int 4153)))) S.length (ptE ns place none none none) S
    = some (.nx, ptE ns place (some (.p (.int c))) none none, S) := by
  by_cases h : place < ns.length
  · have ha : atI (ns.map PyData.int) (place : Int) = some (.int ns[place]) := atI_nat (by rw [List.getElem?_map, List.getElem?_eq_getElem h]; rfl)
    have hi : ((place : Nat) : Int) < ((ns.length : Nat) : Int) := by omega
    have hv : ifF (asT (binF ltI (varF 1) (argF lenT (consF (varF 0) nilF)))) (binF ixT (varF 0) (varF 1)) (binF addT (binF addT (binF modI (argF intT (consF (argF sumT (consF (sliceF (varF 0) noO (someO (conF (.int 1)))) nilF)) nilF)) (conF (.int 1000291))) (binF mulI (conF (.int 7351)) (varF 1))) (conF (.int 4153))) (ptE ns place none none none) S = some (.p (.int ns[place]), S) := by
      rw [e_if, show asT (binF ltI (varF 1) (argF lenT (consF (varF 0) nilF))) (ptE ns place none none none) S = some (true, S) by simp [h], Option.bind_some, e_if1 rfl]
      simp [ha]
    refine ⟨ns[place], ?_⟩
    rw [s_set, hv, Option.bind_some, s_set1, gc_p, Option.map_some, s_set2, List.take_length]
    rfl
  · have cm : CMul 7351 place := cmul_l (by decide) (by decide)
    have hs : sliceF (varF 0) noO (someO (conF (.int 1))) (ptE ns place none none none) S = some (.loc S.length, S ++ [.lst ((cutL ns none (some 1)).map PyData.int)]) := by
      have e : cutL (ns.map PyData.int) none (some 1) = (cutL ns none (some 1)).map PyData.int := by
        unfold cutL
        rw [List.length_map, List.map_take, List.map_drop]
      rw [← e]
      simp [sliceF, someO, noO, slT, lstOf]
    have hsum := e_sumL (S := S ++ [.lst ((cutL ns none (some 1)).map PyData.int)]) (i := S.length) (ns := cutL ns none (some 1)) ap0
    have hv : ifF (asT (binF ltI (varF 1) (argF lenT (consF (varF 0) nilF)))) (binF ixT (varF 0) (varF 1)) (binF addT (binF addT (binF modI (argF intT (consF (argF sumT (consF (sliceF (varF 0) noO (someO (conF (.int 1)))) nilF)) nilF)) (conF (.int 1000291))) (binF mulI (conF (.int 7351)) (varF 1))) (conF (.int 4153))) (ptE ns place none none none) S
        = some (.p (.int ((cutL ns none (some 1)).sum % 1000291 + 7351 * place + 4153)), S ++ [.lst ((cutL ns none (some 1)).map PyData.int)]) := by
      rw [e_if, show asT (binF ltI (varF 1) (argF lenT (consF (varF 0) nilF))) (ptE ns place none none none) S = some (false, S) by simp [h], Option.bind_some, e_if0 rfl]
      simp [hs, hsum, cm]
    refine ⟨(cutL ns none (some 1)).sum % 1000291 + 7351 * place + 4153, ?_⟩
    rw [s_set, hv, Option.bind_some, s_set1, gc_p, Option.map_some, s_set2]
    simp
end G66
set_option maxHeartbeats 1000000
/-! P66u: the pot made, whole. -/
namespace G66
open PySem PySem.Spec PyProof.Rows L2 Pv
def big1 : Int := 10 ^ (60 : Int).toNat
def big5 : Int := big1 ^ (5 : Int).toNat
theorem big_pos : 0 < big5 := by decide +kernel
theorem pow1 (S : Sto) : powA (.p (.int 10)) (.p (.int 60)) S = some (.p (.int big1), S) := e_pow (.inl ⟨by decide, by decide, by decide⟩)
theorem pow5 (S : Sto) : powA (.p (.int big1)) (.p (.int 5)) S = some (.p (.int big5), S) := e_pow (.inr ⟨by decide, by decide +kernel⟩)
theorem pow18 (S : Sto) : ∃ q : Int, powA (.p (.int 10)) (.p (.int 18)) S = some (.p (.int q), S) := ⟨_, e_pow (.inl ⟨by decide, by decide, by decide⟩)⟩
theorem pot_own (S : Sto) (ns : List Int) (place c : Int) (n : Nat) : ∃ o : Int, 0 ≤ o ∧ setS 3 (binF mulI (binF modI (argF intT (consF (argF absT (consF (varF 2) nilF)) nilF)) (binF powA (binF powA (conF (.int 10)) (conF (.int 60))) (conF (.int 5)))) (argF intT (consF (binF geI (argF absT (consF (varF 2) nilF)) (binF powA (conF (.int 10)) (conF (.int 18)))) nilF))) n (ptE ns place (some (.p (.int c))) none none) S
    = some (.nx, ptE ns place (some (.p (.int c))) (some (.p (.int o))) none, S) := by
  obtain ⟨q, hq⟩ := pow18 S
  have hm : ∀ x, modI (.p (.int x)) (.p (.int big5)) S = some (.p (.int (x % big5)), S) := fun x => e_mod big_pos
  have h1 : binF modI (argF intT (consF (argF absT (consF (varF 2) nilF)) nilF)) (binF powA (binF powA (conF (.int 10)) (conF (.int 60))) (conF (.int 5))) (ptE ns place (some (.p (.int c))) none none) S = some (.p (.int ((if c < 0 then -c else c) % big5)), S) := by
    rw [e_bin, show argF intT (consF (argF absT (consF (varF 2) nilF)) nilF) (ptE ns place (some (.p (.int c))) none none) S = some (.p (.int (if c < 0 then -c else c)), S) by simp, Option.bind_some, e_bin1, e_bin, e_bin, e_con, Option.bind_some, e_bin1, e_con, Option.bind_some, e_bin2, pow1, Option.bind_some, e_bin1, e_con, Option.bind_some, e_bin2, pow5, Option.bind_some, e_bin2, hm]
  obtain ⟨b, hb, h2⟩ : ∃ b : Int, (b = 0 ∨ b = 1) ∧ argF intT (consF (binF geI (argF absT (consF (varF 2) nilF)) (binF powA (conF (.int 10)) (conF (.int 18)))) nilF) (ptE ns place (some (.p (.int c))) none none) S = some (.p (.int b), S) := by
    refine ⟨if decide (q ≤ (if c < 0 then -c else c)) = true then 1 else 0, by cases decide (q ≤ (if c < 0 then -c else c)) <;> simp, ?_⟩
    rw [e_arg, e_cons, e_bin, show argF absT (consF (varF 2) nilF) (ptE ns place (some (.p (.int c))) none none) S = some (.p (.int (if c < 0 then -c else c)), S) by simp, Option.bind_some, e_bin1, e_bin, e_con, Option.bind_some, e_bin1, e_con, Option.bind_some, e_bin2, hq, Option.bind_some, e_bin2, e_ge, Option.bind_some, e_cons1, e_nil, Option.map_some, e_cons2, Option.bind_some, e_argK, e_intB]
  have cm : CMul ((if c < 0 then -c else c) % big5) b := cmul_r (by omega) (by omega)
  refine ⟨(if c < 0 then -c else c) % big5 * b, Int.mul_nonneg (Int.emod_nonneg _ (fun e => by have := big_pos; omega)) (by omega), ?_⟩
  rw [s_set, e_bin, h1, Option.bind_some, e_bin1, h2, Option.bind_some, e_bin2, e_mulI cm, Option.bind_some, s_set1, gc_p, Option.map_some, s_set2, List.take_length]
  rfl
theorem lst3 {fa fb fc : EF} {env : Pv.Env} {S : Sto} {a b c : Int} (ha : fa env S = some (.p (.int a), S)) (hb : fb env S = some (.p (.int b), S)) (hc : fc env S = some (.p (.int c), S)) : lstF (consF fa (consF fb (consF fc nilF))) env S = some (.loc S.length, S ++ [pot3 a b c]) := by
  rw [e_lst, e_cons, ha, Option.bind_some, e_cons1, e_cons, hb, Option.bind_some, e_cons1, e_cons, hc, Option.bind_some, e_cons1, e_nil, Option.map_some, e_cons2, Option.map_some, e_cons2, Option.map_some, e_cons2, Option.bind_some, e_lstK (ds := [.int a, .int b, .int c]) rfl (by simp)]
theorem pot_sum (S : Sto) (ns : List Int) (place : Int) (c o s : Int) (h0 : 0 ≤ place) (hp : place ≤ 10) : argF intT (consF (binF addT (binF addT (binF mulI (varF 4) (conF (.int 83383))) (binF mulI (binF mulI (conF (.int 12301)) (varF 1)) (varF 1))) (conF (.int 3571))) nilF) (ptE ns place (some (.p (.int c))) (some (.p (.int o))) (some (.p (.int s)))) S = some (.p (.int (s * 83383 + 12301 * place * place + 3571)), S) := by
  have c1 : ∀ i, CMul i 83383 := fun i => cmul_r (by decide) (by decide)
  have c2 : ∀ i, CMul 12301 i := fun i => cmul_l (by decide) (by decide)
  have c3 : ∀ i, CMul i place := fun i => cmul_r (by omega) (by omega)
  simp [c1, c2, c3]
theorem r_pot (S : Sto) (ns : List Int) (place : Nat) (hp : place ≤ 10) : ∃ p, m__law_pot [.ro (ns.map PyData.int), .p (.int place)] S = some (.loc S.length, S ++ [p]) ∧ PotOk 0 p := by
  obtain ⟨c, b1⟩ := pot_cell S ns place hp
  obtain ⟨o, ho, b2⟩ := pot_own S ns place c S.length
  have b3 : setS 4 (binF modI (argF intT (consF (varF 2) nilF)) (conF (.int 2305843009213693951))) S.length (ptE ns place (some (.p (.int c))) (some (.p (.int o))) none) S = some (.nx, ptE ns place (some (.p (.int c))) (some (.p (.int o))) (some (.p (.int (c % 2305843009213693951)))), S) := by
    have hm : modI (.p (.int c)) (.p (.int 2305843009213693951)) S = some (.p (.int (c % 2305843009213693951)), S) := e_mod (by decide)
    rw [s_set, e_bin, show argF intT (consF (varF 2) nilF) (ptE ns place (some (.p (.int c))) (some (.p (.int o))) none) S = some (.p (.int c), S) by simp, Option.bind_some, e_bin1, e_con, Option.bind_some, e_bin2, hm, Option.bind_some, s_set1, gc_p, Option.map_some, s_set2, List.take_length]
    rfl
  have b4 : retS (lstF (consF (varF 3) (consF (binF modI (argF intT (consF (binF addT (binF addT (binF mulI (varF 4) (conF (.int 83383))) (binF mulI (binF mulI (conF (.int 12301)) (varF 1)) (varF 1))) (conF (.int 3571))) nilF)) (conF (.int 2305843009213693921))) (consF (conF (.int 0)) nilF)))) S.length (ptE ns place (some (.p (.int c))) (some (.p (.int o))) (some (.p (.int (c % 2305843009213693951))))) S
      = some (.rt (.loc S.length), ptE ns place (some (.p (.int c))) (some (.p (.int o))) (some (.p (.int (c % 2305843009213693951)))), S ++ [pot3 o ((c % 2305843009213693951 * 83383 + 12301 * place * place + 3571) % 2305843009213693921) 0]) := by
    have hm : ∀ x, modI (.p (.int x)) (.p (.int 2305843009213693921)) S = some (.p (.int (x % 2305843009213693921)), S) := fun x => e_mod (by decide)
    refine ret_go (lst3 (by rw [e_var]; rfl) ?_ (by rw [e_con]))
    rw [e_bin, pot_sum S ns place c o _ (by omega) (by omega), Option.bind_some, e_bin1, e_con, Option.bind_some, e_bin2, hm]
  refine ⟨_, m_ret (show seqS _ (seqS _ (seqS _ _)) _ _ _ = _ from seq_go b1 (seq_go b2 (seq_go b3 b4))) (gc_new rfl), o, _, 0, rfl, ho, Int.emod_nonneg _ (by decide), Int.emod_lt_of_pos _ (by decide), Int.le_refl _, Int.le_refl _⟩
end G66
set_option maxHeartbeats 1000000
/-! P66v: counters under other names. -/
namespace G66
open PySem PySem.Spec PyProof.Rows L2 Pv
def ren (g : Int → Int) (L : CL) : CL := L.map fun p => (g p.1, p.2)
theorem ren_lk {g : Int → Int} {L : CL} {f : Int} (h : ∀ p ∈ L, g p.1 = g f → p.1 = f) : lk (ren g L) (g f) = lk L f := by
  unfold ren
  induction L with
  | nil => rfl
  | cons p L ih =>
    rw [List.map_cons, lk_cons, lk_cons, ih fun q hq => h q (List.mem_cons_of_mem _ hq)]
    by_cases e : p.1 = f
    · rw [if_pos (by rw [e]), if_pos e]
    · rw [if_neg (fun z => e (h p List.mem_cons_self z)), if_neg e]
theorem ren_has {g : Int → Int} {L : CL} {f : Int} (h : ∀ p ∈ L, g p.1 = g f → p.1 = f) : has (ren g L) (g f) = has L f := by
  rw [← has_lk, ← has_lk, ren_lk h]
theorem ren_put {g : Int → Int} {L : CL} {f c : Int} (h : ∀ p ∈ L, g p.1 = g f → p.1 = f) : ren g (put L f c) = put (ren g L) (g f) c := by
  unfold put
  rw [ren_has h]
  by_cases hh : has L f = true
  · rw [if_pos hh, if_pos hh]
    unfold ren
    rw [List.map_map, List.map_map]
    refine List.map_congr_left fun p hp => ?_
    show ((g (if p.1 = f then (p.1, c) else p).1, (if p.1 = f then (p.1, c) else p).2) : Int × Int) = if g p.1 = g f then (g p.1, c) else (g p.1, p.2)
    by_cases e : p.1 = f
    · rw [if_pos e, if_pos (by rw [e])]
    · rw [if_neg e, if_neg (fun z => e (h p hp z))]
  · rw [if_neg hh, if_neg hh]
    unfold ren
    rw [List.map_append]; rfl
theorem ren_dec (g : Int → Int) (L : CL) : ren g (dec L) = dec (ren g L) := by
  induction L with
  | nil => rfl
  | cons p L ih =>
    show ren g (dec (p :: L)) = dec ((g p.1, p.2) :: ren g L)
    rw [dec_cons, dec_cons]
    show _ = if 1 < p.2 then (g p.1, p.2 - 1) :: dec (ren g L) else dec (ren g L)
    by_cases h : 1 < p.2
    · rw [if_pos h, if_pos h, ← ih]; rfl
    · rw [if_neg h, if_neg h, ih]
theorem ren_step {g : Int → Int} {many : Int} {s : CL × Int} {f : Int} (h : ∀ p ∈ s.1, g p.1 = g f → p.1 = f) : mgStep many (ren g s.1, s.2) (g f) = (ren g (mgStep many s f).1, (mgStep many s f).2) := by
  have hl : (ren g s.1).length = s.1.length := by unfold ren; rw [List.length_map]
  unfold mgStep
  simp only [ren_has h, hl, ren_lk h]
  by_cases hc : has s.1 f = true ∨ (s.1.length : Int) < many
  · rw [if_pos hc, if_pos hc, ren_put h]
  · rw [if_neg hc, if_neg hc, ren_dec]
theorem step_keys {many : Int} {s : CL × Int} {f : Int} {p : Int × Int} (h : p ∈ (mgStep many s f).1) : p.1 = f ∨ ∃ q ∈ s.1, q.1 = p.1 := by
  unfold mgStep at h
  split at h
  · rcases put_mem h with h | rfl
    · exact .inr ⟨p, h, rfl⟩
    · exact .inl rfl
  · unfold dec at h
    obtain ⟨q, hq, rfl⟩ := List.mem_map.mp h
    exact .inr ⟨q, (List.mem_filter.mp hq).1, rfl⟩
/-- other names, the same counts in the same places -/
theorem mg_ren {g : Int → Int} {many : Int} (fs : List Int) (hg : ∀ a ∈ fs, ∀ b ∈ fs, g a = g b → a = b) : mg many (fs.map g) = (ren g (mg many fs).1, (mg many fs).2) := by
  suffices H : ∀ (gs : List Int) (s : CL × Int), (∀ f ∈ gs, f ∈ fs) → (∀ p ∈ s.1, p.1 ∈ fs) → (gs.map g).foldl (mgStep many) (ren g s.1, s.2) = (ren g (gs.foldl (mgStep many) s).1, (gs.foldl (mgStep many) s).2) by
    exact H fs ([], 0) (fun f h => h) fun p h => by simp at h
  intro gs
  induction gs with
  | nil => exact fun s _ _ => rfl
  | cons f gs ih =>
    intro s h1 h2
    rw [List.map_cons, List.foldl_cons, List.foldl_cons, ren_step fun p hp e => hg p.1 (h2 p hp) f (h1 f List.mem_cons_self) e]
    refine ih (mgStep many s f) (fun k hk => h1 k (List.mem_cons_of_mem _ hk)) fun p hp => ?_
    rcases step_keys hp with e | ⟨q, hq, e⟩
    · rw [e]; exact h1 f List.mem_cons_self
    · rw [← e]; exact h2 q hq
end G66
set_option maxHeartbeats 1000000
/-! P66w: merged, in plain numbers. -/
namespace G66
open PySem PySem.Spec PyProof.Rows L2 Pv
theorem addP_gt {M : CL} {p : Int × Int} (f : Int) : gt (addP M p) f = gt M f + if p.1 = f then p.2 else 0 := by
  unfold gt addP
  rw [lk_put]
  by_cases e : f = p.1
  · subst e; rw [if_pos rfl, if_pos rfl]; rfl
  · rw [if_neg e, if_neg (fun z => e z.symm)]; omega
def part (L : CL) (f : Int) : Int := ((L.filter fun p => decide (p.1 = f)).map (·.2)).sum
theorem part_cons (p : Int × Int) (L : CL) (f : Int) : part (p :: L) f = (if p.1 = f then p.2 else 0) + part L f := by
  unfold part
  rw [List.filter_cons]
  by_cases h : p.1 = f
  · rw [decide_eq_true h, if_pos rfl, if_pos h]; rfl
  · rw [decide_eq_false h, if_neg Bool.false_ne_true, if_neg h]; omega
theorem both_gt : ∀ (L2 L1 : CL) (f : Int), gt (both L1 L2) f = gt L1 f + part L2 f
  | [], L1, f => by show gt L1 f = gt L1 f + 0; omega
  | p :: L2, L1, f => by
    show gt (both (addP L1 p) L2) f = _
    rw [both_gt L2 (addP L1 p) f, addP_gt, part_cons]; omega
/-- of unlike keys the part is what is kept -/
theorem part_gt {L : CL} (h : nd L) (f : Int) : part L f = gt L f := by
  induction L with
  | nil => rfl
  | cons p L ih =>
    unfold nd at h
    rw [List.map_cons, List.nodup_cons] at h
    unfold gt at ih ⊢
    rw [part_cons, lk_cons, ih h.2]
    by_cases e : p.1 = f
    · have h0 : has L f = false := by
        cases z : has L f with
        | false => rfl
        | true => exact absurd (e ▸ has_mem.mp z) h.1
      rw [if_pos e, if_pos e, lk_none h0]
      show p.2 + 0 = p.2
      omega
    · rw [if_neg e, if_neg e]; omega
theorem sum_addP {M : CL} (h : nd M) (p : Int × Int) : sumC (addP M p) = sumC M + p.2 := by
  unfold addP put
  by_cases hh : has M p.1 = true
  · rw [if_pos hh]
    have := has_lk M p.1
    rw [hh] at this
    cases e : lk M p.1 with
    | none => rw [e] at this; cases this
    | some d =>
      have := sum_upd (c := d + p.2) h e
      simp only [Option.getD_some]
      omega
  · rw [if_neg hh, sum_app]
    have h' : has M p.1 = false := by simpa using hh
    rw [lk_none h']
    show sumC M + ((0 + p.2) + 0) = _
    omega
theorem sum_both : ∀ (L2 L1 : CL), nd L1 → sumC (both L1 L2) = sumC L1 + sumC L2
  | [], L1, _ => by show sumC L1 = sumC L1 + 0; omega
  | p :: L2, L1, h => by
    show sumC (both (addP L1 p) L2) = _
    rw [sum_both L2 (addP L1 p) (addP_nd h), sum_addP h, sum_cons]; omega
theorem gt_has {L : CL} (h : ∀ p ∈ L, 1 ≤ p.2) (f : Int) : has L f = true ↔ 1 ≤ gt L f := by
  have := has_lk L f
  unfold gt
  cases e : lk L f with
  | none => rw [e] at this; rw [← this]; simp
  | some c =>
    rw [e] at this
    rw [← this]
    have := h _ (mem_of_lk e)
    simp only [Option.isSome_some, Option.getD_some, true_iff]
    exact this
theorem addP_pos {M : CL} {p : Int × Int} (h : ∀ q ∈ M, 1 ≤ q.2) (hp : 1 ≤ p.2) : ∀ q ∈ addP M p, 1 ≤ q.2 := fun q hq => by
  rcases put_mem hq with hq | rfl
  · exact h q hq
  · have := gt_nonneg h p.1
    unfold gt at this
    show 1 ≤ (lk M p.1).getD 0 + p.2
    omega
theorem both_pos : ∀ (L2 L1 : CL), (∀ q ∈ L1, 1 ≤ q.2) → (∀ q ∈ L2, 1 ≤ q.2) → ∀ q ∈ both L1 L2, 1 ≤ q.2
  | [], _, h, _ => h
  | p :: L2, L1, h, h2 => both_pos L2 (addP L1 p) (addP_pos h (h2 p List.mem_cons_self)) fun q hq => h2 q (List.mem_cons_of_mem _ hq)
end G66
set_option maxHeartbeats 1000000
/-! P66x: what is cut off by merging. -/
namespace G66
open PySem PySem.Spec PyProof.Rows L2 Pv
theorem sum_perm {l m : List Int} (h : l.Perm m) : l.sum = m.sum := by
  induction h with
  | nil => rfl
  | cons x _ ih => rw [List.sum_cons, List.sum_cons, ih]
  | swap x y l => rw [List.sum_cons, List.sum_cons, List.sum_cons, List.sum_cons]; omega
  | trans _ _ h1 h2 => exact h1.trans h2
theorem sum_nonneg : ∀ {l : List Int}, (∀ x ∈ l, 0 ≤ x) → 0 ≤ l.sum
  | [], _ => Int.le_refl _
  | x :: l, h => by
    have h1 := h x List.mem_cons_self
    have h2 := sum_nonneg fun y hy => h y (List.mem_cons_of_mem x hy)
    rw [List.sum_cons]; omega
/-- the k-th of a falling row, as often as there are up to it -/
theorem kth_sum : ∀ (l : List Int) (k : Nat) (x : Int), l.Pairwise (fun a b => b ≤ a) → (∀ y ∈ l, 0 ≤ y) → l[k]? = some x → x * ((k : Int) + 1) ≤ l.sum
  | [], k, x, _, _, h => by simp at h
  | y :: l, 0, x, _, h2, h => by
    have : y = x := by simpa using h
    subst this
    have := sum_nonneg fun z hz => h2 z (List.mem_cons_of_mem y hz)
    rw [List.sum_cons]
    simp
    omega
  | y :: l, k + 1, x, h1, h2, h => by
    rw [List.pairwise_cons] at h1
    have hk : l[k]? = some x := by simpa using h
    have ih := kth_sum l k x h1.2 (fun z hz => h2 z (List.mem_cons_of_mem _ hz)) hk
    have hx := h1.1 x (List.mem_of_getElem? hk)
    rw [List.sum_cons]
    have e : x * (((k + 1 : Nat) : Int) + 1) = x * ((k : Int) + 1) + x := by
      rw [Int.natCast_succ, Int.mul_add, Int.mul_one]
    rw [e]; omega
theorem ranks_perm (M : CL) : (ranks M).Perm (M.map (·.2)) := (List.reverse_perm _).trans (sortI_perm _)
theorem ranks_down (M : CL) : (ranks M).Pairwise fun a b => b ≤ a := by
  unfold ranks
  rw [List.pairwise_reverse]
  exact sortI_le _
theorem less_sum {M : CL} {many : Int} (hm : 0 ≤ many) (h : ∀ p ∈ M, 1 ≤ p.2) : lessOf many M * (many + 1) ≤ sumC M ∧ 0 ≤ lessOf many M := by
  have hn : ∀ y ∈ ranks M, 0 ≤ y := fun y hy => by
    obtain ⟨p, hp, rfl⟩ := List.mem_map.mp ((ranks_perm M).mem_iff.mp hy)
    have := h p hp
    omega
  unfold lessOf
  by_cases hc : many < ((ranks M).length : Nat)
  · rw [if_pos hc]
    have hi : many.toNat < (ranks M).length := by omega
    have hg : (ranks M)[many.toNat]? = some ((ranks M).getD many.toNat 0) := by
      simp [List.getD, List.getElem?_eq_getElem hi]
    have := kth_sum (ranks M) many.toNat _ (ranks_down M) hn hg
    rw [show ((many.toNat : Nat) : Int) = many by omega, sum_perm (ranks_perm M)] at this
    exact ⟨this, hn _ (List.mem_of_getElem? hg)⟩
  · rw [if_neg hc]
    refine ⟨?_, Int.le_refl _⟩
    rw [Int.zero_mul]
    exact sum_nonneg fun x hx => by
      obtain ⟨p, hp, rfl⟩ := List.mem_map.mp hx
      have := h p hp
      omega
end G66
set_option maxHeartbeats 1000000
/-! P66y: how many rows are left by merging. -/
namespace G66
open PySem PySem.Spec PyProof.Rows L2 Pv
theorem above_kth : ∀ (l : List Int) (k : Nat) (x : Int), l.Pairwise (fun a b => b ≤ a) → l[k]? = some x → l.countP (fun y => decide (x < y)) ≤ k
  | [], k, x, _, h => by simp at h
  | y :: l, 0, x, h1, h => by
    have : y = x := by simpa using h
    subst this
    rw [List.pairwise_cons] at h1
    rw [Nat.le_zero, List.countP_eq_zero]
    intro z hz
    rcases List.mem_cons.mp hz with rfl | hz
    · simp
    · have := h1.1 z hz
      simp; omega
  | y :: l, k + 1, x, h1, h => by
    rw [List.pairwise_cons] at h1
    have ih := above_kth l k x h1.2 (by simpa using h)
    rw [List.countP_cons]
    split <;> omega
theorem cut_len {M : CL} {many : Int} (hm : 0 ≤ many) : ((cutTo (lessOf many M) M).length : Int) ≤ many := by
  have e : (cutTo (lessOf many M) M).length = (ranks M).countP fun y => decide (lessOf many M < y) := by
    rw [(ranks_perm M).countP_eq]
    unfold cutTo
    rw [List.length_map, List.countP_map, ← List.countP_eq_length_filter]
    rfl
  rw [e]
  by_cases hc : many < ((ranks M).length : Nat)
  · have hi : many.toNat < (ranks M).length := by omega
    have hl : lessOf many M = (ranks M).getD many.toNat 0 := if_pos hc
    have hg : (ranks M)[many.toNat]? = some (lessOf many M) := by
      rw [hl]; simp [List.getD, List.getElem?_eq_getElem hi]
    have := above_kth (ranks M) many.toNat _ (ranks_down M) hg
    omega
  · have := List.countP_le_length (p := fun y => decide (lessOf many M < y)) (l := ranks M)
    omega
end G66
set_option maxHeartbeats 1000000
/-! P66z: rows in sequence are rows as counters tells them. -/
namespace G66
open PySem PySem.Spec PyProof.Rows L2 Pv
theorem sortP_up {L : CL} (h : nd L) : ((sortP L).map (·.1)).Pairwise (· < ·) := by
  have hs := sortP_le L
  have hn : nd (sortP L) := by
    unfold nd at *
    exact (List.Perm.nodup_iff ((sortP_perm L).map _)).mpr h
  rw [List.pairwise_map]
  unfold nd at hn
  rw [List.nodup_iff_pairwise_ne, List.pairwise_map] at hn
  refine (hs.and hn).imp fun {a b} h => ?_
  have := lexLe_iff.mp h.1
  have ne := h.2
  omega
theorem mem_gt {L : CL} (h : nd L) {p : Int × Int} (hp : p ∈ L) : gt L p.1 = p.2 := by
  unfold gt; rw [mem_lk h hp]; rfl
/-- what counters hands out are counters -/
theorem rows_of {many : Int} {fs : List Int} (h0 : 0 ≤ many) (h2 : many ≤ 20) (hl : fs.length ≤ 500) (h : ∀ f ∈ fs, 0 ≤ f ∧ f ≤ 1000) : Rows (sortP (mg many fs).1) := by
  have M := mg_ok h0 fs
  have mem : ∀ p ∈ sortP (mg many fs).1, p ∈ (mg many fs).1 := fun p hp => (sortP_perm _).mem_iff.mp hp
  refine ⟨sortP_up M.nd, fun p hp => ?_, fun p hp => ?_, ?_⟩
  · have h1 := M.hi p.1
    rw [mem_gt M.nd (mem p hp)] at h1
    have h3 := M.pos p (mem p hp)
    exact h p.1 (List.count_pos_iff.mp (by omega))
  · have h1 := M.hi p.1
    rw [mem_gt M.nd (mem p hp)] at h1
    have h3 := M.pos p (mem p hp)
    have := List.count_le_length (a := p.1) (l := fs)
    omega
  · have := M.len
    rw [(sortP_perm _).length_eq]
    omega
end G66
set_option maxHeartbeats 1000000
/-! P66aa: one flow alone. -/
namespace G66
open PySem PySem.Spec PyProof.Rows L2 Pv
theorem mg_lone {many : Int} (h : 1 ≤ many) (x : Int) : ∀ (r : Nat), mg many (List.replicate (r + 1) x) = ([(x, (r : Int) + 1)], 0) := by
  have go : ∀ (r : Nat) (c : Int), (List.replicate r x).foldl (mgStep many) ([(x, c)], 0) = ([(x, c + r)], 0) := by
    intro r
    induction r with
    | zero => intro c; simp
    | succ r ih =>
      intro c
      have e : mgStep many ([(x, c)], 0) x = ([(x, c + 1)], 0) := by
        have hh : has [(x, c)] x = true := by simp [has]
        unfold mgStep
        rw [if_pos (.inl hh)]
        unfold put
        show (if has [(x, c)] x = true then _ else _, _) = _
        rw [if_pos hh]
        simp [lk]
      rw [List.replicate_succ, List.foldl_cons, e, ih (c + 1)]
      have : c + 1 + (r : Int) = c + ((r + 1 : Nat) : Int) := by omega
      rw [this]
  intro r
  have e : mgStep many ([], 0) x = ([(x, 1)], 0) := by
    unfold mgStep
    rw [if_pos (.inr (by show ((0 : Nat) : Int) < many; omega))]
    rfl
  unfold mg
  rw [List.replicate_succ, List.foldl_cons, e, go r 1]
  have : 1 + (r : Int) = (r : Int) + 1 := by omega
  rw [this]
end G66
set_option maxHeartbeats 1000000
/-! P66ab: plain facts for turns and blocks. -/
namespace G66
open PySem PySem.Spec PyProof.Rows L2 Pv
theorem cnt_rep (ns : List Int) (f : Int) : ∀ r : Nat, ((List.replicate r ns).flatten).count f = r * ns.count f
  | 0 => by simp
  | r + 1 => by rw [List.replicate_succ, List.flatten_cons, List.count_append, cnt_rep ns f r, Nat.succ_mul, Nat.add_comm]
theorem len_rep (ns : List Int) : ∀ r : Nat, ((List.replicate r ns).flatten).length = r * ns.length
  | 0 => by simp
  | r + 1 => by rw [List.replicate_succ, List.flatten_cons, List.length_append, len_rep ns r, Nat.succ_mul, Nat.add_comm]
theorem nd_nodup {L : CL} (h : nd L) : L.Nodup := by
  unfold nd at h
  rw [List.nodup_iff_pairwise_ne, List.pairwise_map] at h
  rw [List.nodup_iff_pairwise_ne]
  exact h.imp fun n e => n (congrArg Prod.fst e)
theorem mem_by {L : CL} (hn : nd L) (hp : ∀ p ∈ L, 1 ≤ p.2) {p : Int × Int} : p ∈ L ↔ gt L p.1 = p.2 ∧ 1 ≤ p.2 := by
  constructor
  · intro h; exact ⟨mem_gt hn h, hp p h⟩
  · intro ⟨h1, h2⟩
    unfold gt at h1
    cases e : lk L p.1 with
    | none => rw [e] at h1; simp at h1; omega
    | some c =>
      rw [e] at h1
      have := mem_of_lk e
      simp at h1
      rw [h1] at this
      exact this
theorem rows_by {L M : CL} (hn : nd L) (hp : ∀ p ∈ L, 1 ≤ p.2) (hm : nd M) (hq : ∀ p ∈ M, 1 ≤ p.2) (he : ∀ f, gt L f = gt M f) : L.Perm M :=
  (List.perm_ext_iff_of_nodup (nd_nodup hn) (nd_nodup hm)).mpr fun p => by rw [mem_by hn hp, mem_by hm hq, he]
theorem sortP_congr {L M : CL} (h : L.Perm M) : sortP L = sortP M := sortP_uniq ((sortP_perm L).trans h) (sortP_le L)
theorem sortI_congr {L M : List Int} (h : L.Perm M) : sortI L = sortI M := sortI_uniq ((sortI_perm L).trans h) (sortI_le L)
theorem nd_perm {L M : CL} (h : L.Perm M) (hn : nd L) : nd M := (List.Perm.nodup_iff (h.map _)).mp hn
theorem gt_perm {L M : CL} (h : L.Perm M) (hn : nd L) (hp : ∀ p ∈ L, 1 ≤ p.2) (f : Int) : gt L f = gt M f := by
  have hm := nd_perm h hn
  have hq : ∀ p ∈ M, 1 ≤ p.2 := fun p q => hp p (h.mem_iff.mpr q)
  have g0 := gt_nonneg hp f
  have g1 := gt_nonneg hq f
  by_cases h1 : 1 ≤ gt L f
  · have : (f, gt L f) ∈ L := (mem_by hn hp).mpr ⟨rfl, h1⟩
    have := ((mem_by hm hq).mp (h.mem_iff.mp this)).1
    exact this.symm
  · by_cases h2 : 1 ≤ gt M f
    · have : (f, gt M f) ∈ M := (mem_by hm hq).mpr ⟨rfl, h2⟩
      exact ((mem_by hn hp).mp (h.mem_iff.mpr this)).1
    · omega
theorem gt_cons (p : Int × Int) (L : CL) (f : Int) : gt (p :: L) f = if p.1 = f then p.2 else gt L f := by
  unfold gt
  rw [lk_cons]
  split <;> rfl
theorem gt_const (r : Int) (f : Int) : ∀ ns : List Int, gt (ns.map fun n => (n, r)) f = if f ∈ ns then r else 0
  | [] => rfl
  | n :: ns => by
    rw [List.map_cons, gt_cons, gt_const r f ns]
    by_cases h : n = f
    · subst h; simp
    · rw [if_neg h]
      have : f ∈ n :: ns ↔ f ∈ ns := by simp [Ne.symm h]
      by_cases h2 : f ∈ ns <;> simp [h2, Ne.symm h]
theorem nd_const {ns : List Int} (h : ns.Nodup) (r : Int) : nd (ns.map fun n => (n, r)) := by
  unfold nd
  rw [List.map_map]
  have : ((fun p : Int × Int => p.1) ∘ fun n => (n, r)) = id := rfl
  rw [this, List.map_id]; exact h
theorem count_nd {ns : List Int} (h : ns.Nodup) (f : Int) : ns.count f = if f ∈ ns then 1 else 0 := by
  split
  · next hf => exact Nat.le_antisymm (List.nodup_iff_count.mp h f) (List.count_pos_iff.mpr hf)
  · next hf => exact List.count_eq_zero.mpr hf
/-- what as many flows by turns as counters count -/
theorem turn_few {many : Int} {ns : List Int} (hn : ns.Nodup) (hl : (ns.length : Int) = many) (r : Nat) :
    (mg many (List.replicate r ns).flatten).2 = 0 ∧ sortP (mg many (List.replicate r ns).flatten).1 = sortP (if (0 : Int) < r then ns.map (fun n => (n, (r : Int))) else []) := by
  have h0 : (mg many (List.replicate r ns).flatten).2 = 0 := mg_few (ns := ns) (by omega) _ fun f hf => by
    obtain ⟨l, h1, h2⟩ := List.mem_flatten.mp hf
    rw [List.eq_of_mem_replicate h1] at h2; exact h2
  refine ⟨h0, sortP_congr ?_⟩
  have M := mg_ok (by omega : 0 ≤ many) (List.replicate r ns).flatten
  have hgt : ∀ f, gt (mg many (List.replicate r ns).flatten).1 f = if f ∈ ns then (r : Int) else 0 := fun f => by
    have h1 := M.lo f
    have h2 := M.hi f
    rw [h0] at h1
    rw [cnt_rep, count_nd hn] at h1 h2
    split
    · next hf => simp only [hf, if_true] at h1 h2; omega
    · next hf => simp only [hf, if_false] at h1 h2; omega
  by_cases hr : (0 : Int) < r
  · rw [if_pos hr]
    refine rows_by M.nd M.pos (nd_const hn _) (fun p hp => ?_) fun f => by rw [hgt, gt_const]
    obtain ⟨n, _, rfl⟩ := List.mem_map.mp hp
    show 1 ≤ (r : Int); omega
  · rw [if_neg hr]
    refine rows_by M.nd M.pos (by simp [nd]) (fun p hp => by simp at hp) fun f => by
      rw [hgt]
      have : (r : Int) = 0 := by omega
      rw [this]
      show _ = (0 : Int)
      split <;> rfl
theorem single {l : List Int} {x : Int} (hn : l.Nodup) (h : ∀ y, y ∈ l ↔ y = x) : l = [x] := by
  cases l with
  | nil => have := (h x).mpr rfl; simp at this
  | cons a l =>
    have ha := (h a).mp List.mem_cons_self
    cases l with
    | nil => rw [ha]
    | cons b l =>
      have hb := (h b).mp (by simp)
      subst ha; subst hb
      simp at hn
theorem nil_of {l : List Int} (h : ∀ y, y ∉ l) : l = [] := by
  cases l with
  | nil => rfl
  | cons a l => exact absurd List.mem_cons_self (h a)
theorem hv_turn {ns : List Int} {many : Int} (hn : ns.Nodup) (hl : (ns.length : Int) = many + 1) (r : Nat) : hv (many + 1) (List.replicate r ns).flatten = [] := by
  refine nil_of fun f hf => ?_
  have h2 := (mem_hv.mp hf).2
  rw [len_rep, cnt_rep, count_nd hn] at h2
  rw [show ((r * ns.length : Nat) : Int) = (r : Int) * (many + 1) by rw [← hl]; exact Int.natCast_mul r ns.length] at h2
  split at h2
  · simp at h2
  · simp at h2
    have : 0 ≤ (r : Int) * (many + 1) := Int.mul_nonneg (by omega) (by omega)
    omega
theorem hv_turn1 {ns : List Int} {x : Int} {many : Int} (h1 : 1 ≤ many) (hn : ns.Nodup) (hx : x ∈ ns) (hl : (ns.length : Int) = many + 1) (r : Nat) : hv (many + 1) ((List.replicate r ns).flatten ++ [x]) = [x] := by
  refine single (hv_nd _ _) fun f => ?_
  rw [mem_hv, List.length_append, List.count_append, len_rep, cnt_rep, count_nd hn]
  have e : (((r * ns.length + [x].length : Nat)) : Int) = (r : Int) * (many + 1) + 1 := by
    rw [← hl, ← Int.natCast_mul]; simp
  rw [e]
  by_cases hf : f = x
  · subst hf
    simp only [hx, if_true]
    simp
    have : ((r : Int) + 1) * (many + 1) = (r : Int) * (many + 1) + (many + 1) := by rw [Int.add_mul, Int.one_mul]
    rw [this]; omega
  · have hc : [x].count f = 0 := by simp [List.count_cons, Ne.symm hf]
    rw [hc]
    simp only [hf, iff_false, not_and]
    intro _ h
    split at h
    · simp at h; omega
    · simp at h
      have : 0 ≤ (r : Int) * (many + 1) := Int.mul_nonneg (by omega) (by omega)
      omega
theorem count_two {x f : Int} (h : f ≠ x) : ∀ l : List Int, l.count x + l.count f ≤ l.length
  | [] => by simp
  | y :: l => by
    have ih := count_two h l
    rw [List.count_cons, List.count_cons, List.length_cons]
    by_cases h1 : y = x
    · subst h1
      have e1 : (y == f) = false := by simp [Ne.symm h]
      have e2 : (y == y) = true := by simp
      rw [e1, e2, if_pos rfl, if_neg Bool.false_ne_true]; omega
    · have e1 : (y == x) = false := by simp [h1]
      rw [e1, if_neg Bool.false_ne_true]
      by_cases h2 : (y == f) = true
      · rw [if_pos h2]; omega
      · rw [if_neg h2]; omega
/-- who comes more often than all others together -/
theorem maj_mg {x : Int} {r : Nat} {ms : List Int} (hc : ms.count x = r + 1) (hl : ms.length = 2 * r + 1) : ∃ c : Int, (mg 1 ms).1 = [(x, c)] ∧ c + 2 * (mg 1 ms).2 = ms.length := by
  have M := mg_ok (by decide : (0 : Int) ≤ 1) ms
  have h1 := M.lo x
  have h2 := M.sum
  have h3 := M.len
  have hs : 0 ≤ sumC (mg 1 ms).1 := by
    have := M.pos
    generalize (mg 1 ms).1 = L at this
    induction L with
    | nil => exact Int.le_refl _
    | cons p L ih =>
      rw [sum_cons]
      have := ih fun q hq => this q (List.mem_cons_of_mem _ hq)
      have h9 := this
      have h8 := ‹∀ q ∈ p :: L, 1 ≤ q.2› p List.mem_cons_self
      omega
  have hg : 1 ≤ gt (mg 1 ms).1 x := by omega
  have hm : (x, gt (mg 1 ms).1 x) ∈ (mg 1 ms).1 := (mem_by M.nd M.pos).mpr ⟨rfl, hg⟩
  generalize (mg 1 ms).1 = L at *
  cases L with
  | nil => simp at hm
  | cons p L =>
    cases L with
    | cons q L => simp at h3; omega
    | nil =>
      have : (x, gt [p] x) = p := by simpa using hm
      refine ⟨gt [p] x, by rw [← this]; simp [gt, lk], ?_⟩
      rw [sum_cons] at h2
      have e : sumC [] = 0 := rfl
      rw [e] at h2
      have : gt [p] x = p.2 := congrArg Prod.snd this
      omega
theorem maj_hv {x : Int} {r : Nat} {ms : List Int} (hc : ms.count x = r + 1) (hl : ms.length = 2 * r + 1) : hv 2 ms = [x] := by
  refine single (hv_nd _ _) fun f => ?_
  rw [mem_hv]
  by_cases hf : f = x
  · subst hf
    simp only [iff_true]
    exact ⟨List.count_pos_iff.mp (by omega), by omega⟩
  · simp only [hf, iff_false, not_and]
    intro _
    have := count_two hf ms
    omega
/-! blocks -/
def blk (L : CL) : List Int := (L.map fun p => List.replicate p.2.toNat p.1).flatten
theorem blk_app (L M : CL) : blk (L ++ M) = blk L ++ blk M := by simp [blk]
theorem blk_len {L : CL} (h : ∀ p ∈ L, 1 ≤ p.2) : ((blk L).length : Int) = sumC L := by
  induction L with
  | nil => rfl
  | cons p L ih =>
    have := h p List.mem_cons_self
    rw [sum_cons, ← ih fun q hq => h q (List.mem_cons_of_mem _ hq)]
    unfold blk
    rw [List.map_cons, List.flatten_cons, List.length_append, List.length_replicate]
    omega
theorem blk_mem {L : CL} {f : Int} (h : f ∈ blk L) : ∃ p ∈ L, p.1 = f := by
  obtain ⟨l, h1, h2⟩ := List.mem_flatten.mp h
  obtain ⟨p, hp, rfl⟩ := List.mem_map.mp h1
  exact ⟨p, hp, (List.eq_of_mem_replicate h2).symm⟩
theorem blk_cnt {L : CL} (hn : nd L) (h : ∀ p ∈ L, 1 ≤ p.2) (f : Int) : ((blk L).count f : Int) = gt L f := by
  induction L with
  | nil => rfl
  | cons p L ih =>
    have h1 := h p List.mem_cons_self
    have ih := ih (by unfold nd at *; rw [List.map_cons, List.nodup_cons] at hn; exact hn.2) fun q hq => h q (List.mem_cons_of_mem _ hq)
    have e : blk (p :: L) = List.replicate p.2.toNat p.1 ++ blk L := rfl
    rw [gt_cons, e, List.count_append, List.count_replicate]
    by_cases hf : p.1 = f
    · subst hf
      have h0 : (blk L).count p.1 = 0 := List.count_eq_zero.mpr fun hm => by
        obtain ⟨q, hq, e⟩ := blk_mem hm
        unfold nd at hn
        rw [List.map_cons, List.nodup_cons] at hn
        exact hn.1 (e ▸ List.mem_map_of_mem hq)
      rw [h0]; simp; omega
    · have : (p.1 == f) = false := by simp [hf]
      rw [this, if_neg hf, ← ih]; simp
theorem blk_hv {L : CL} (hn : nd L) (h : ∀ p ∈ L, 1 ≤ p.2) (parts : Int) : (hv parts (blk L)).Perm ((L.filter fun q => decide (((blk L).length : Int) < q.2 * parts)).map (·.1)) := by
  refine (List.perm_ext_iff_of_nodup (hv_nd _ _) ?_).mpr fun f => ?_
  · exact hn.sublist ((List.filter_sublist).map _)
  · rw [mem_hv, List.mem_map]
    constructor
    · intro ⟨h1, h2⟩
      obtain ⟨p, hp, rfl⟩ := blk_mem h1
      refine ⟨p, List.mem_filter.mpr ⟨hp, ?_⟩, rfl⟩
      rw [blk_cnt hn h, mem_gt hn hp] at h2
      exact decide_eq_true h2
    · rintro ⟨p, hp, rfl⟩
      obtain ⟨hp, h2⟩ := List.mem_filter.mp hp
      have hc := blk_cnt hn h p.1
      rw [mem_gt hn hp] at hc
      have := h p hp
      exact ⟨List.count_pos_iff.mp (by omega), by rw [hc]; exact of_decide_eq_true h2⟩
/-- the heavy ones each have a counter -/
theorem hv_has {many : Int} (h0 : 0 ≤ many) {fs : List Int} {f : Int} (h : f ∈ hv (many + 1) fs) : has (mg many fs).1 f = true := by
  have M := mg_ok h0 fs
  have h1 := (mem_hv.mp h).2
  have h2 := M.sum
  have h3 := M.lo f
  rw [gt_has M.pos]
  have hs : 0 ≤ sumC (mg many fs).1 := sum_nonneg fun x hx => by
    obtain ⟨p, hp, rfl⟩ := List.mem_map.mp hx
    have := M.pos p hp; omega
  have : (mg many fs).2 * (many + 1) < (fs.count f : Int) * (many + 1) := by omega
  have := Int.lt_of_mul_lt_mul_right this (by omega)
  omega
end G66
set_option maxHeartbeats 1000000
/-! P66ac: plain facts for lots. -/
namespace G66
open PySem PySem.Spec PyProof.Rows L2 Pv
theorem ren_perm {g : Int → Int} {L M : CL} (h : L.Perm M) : (ren g L).Perm (ren g M) := h.map _
theorem sort_ren (g : Int → Int) (L : CL) : sortP (ren g (sortP L)) = sortP (ren g L) := sortP_congr (ren_perm (sortP_perm L))
theorem rows_nd {L : CL} (h : Rows L) : nd L := List.nodup_iff_pairwise_ne.mpr (h.up.imp fun h => by omega)
theorem rows_pos {L : CL} (h : Rows L) : ∀ p ∈ L, 1 ≤ p.2 := fun p hp => (h.cnt p hp).1
theorem rows_sorted {L : CL} (h : Rows L) : sortP L = L := (sortP_uniq (List.Perm.refl L) (by
  have := h.up
  rw [List.pairwise_map] at this
  exact this.imp fun {a b} hab => lexLe_iff.mpr (.inl hab))).symm
theorem both_perm {L1 L2 : CL} (h1 : Rows L1) (h2 : Rows L2) : (both L1 L2).Perm (both L2 L1) :=
  rows_by (both_nd _ _ (rows_nd h1)) (both_pos _ _ (rows_pos h1) (rows_pos h2)) (both_nd _ _ (rows_nd h2)) (both_pos _ _ (rows_pos h2) (rows_pos h1)) fun f => by
    rw [both_gt, both_gt, part_gt (rows_nd h1), part_gt (rows_nd h2), Int.add_comm]
theorem ranks_congr {L M : CL} (h : L.Perm M) : ranks L = ranks M := by
  unfold ranks; rw [sortI_congr (h.map _)]
theorem less_congr {many : Int} {L M : CL} (h : L.Perm M) : lessOf many L = lessOf many M := by
  unfold lessOf; rw [ranks_congr h]
theorem cut_congr {less : Int} {L M : CL} (h : L.Perm M) : sortP (cutTo less L) = sortP (cutTo less M) := sortP_congr ((h.filter _).map _)
theorem merge_sym {many : Int} {L1 L2 : CL} (h1 : Rows L1) (h2 : Rows L2) : lessOf many (both L2 L1) = lessOf many (both L1 L2) ∧ sortP (cutTo (lessOf many (both L2 L1)) (both L2 L1)) = sortP (cutTo (lessOf many (both L1 L2)) (both L1 L2)) := by
  have h := both_perm h1 h2
  rw [less_congr (many := many) h]
  exact ⟨rfl, cut_congr h.symm⟩
theorem ranks_len (L : CL) : (ranks L).length = L.length := by rw [(ranks_perm L).length_eq, List.length_map]
theorem merge_none {many : Int} {L : CL} (h : Rows L) (hl : (L.length : Int) ≤ many) : lessOf many (both L []) = 0 ∧ sortP (cutTo (lessOf many (both L [])) (both L [])) = L := by
  have e : both L [] = L := rfl
  have e0 : lessOf many L = 0 := by
    unfold lessOf
    rw [if_neg (by rw [ranks_len]; omega)]
  rw [e, e0]
  refine ⟨rfl, ?_⟩
  have : cutTo 0 L = L := by
    unfold cutTo
    rw [List.filter_eq_self.mpr fun q hq => by have := rows_pos h q hq; simp; omega]
    simp
  rw [this, rows_sorted h]
theorem cut_cons (less : Int) (p : Int × Int) (B : CL) : cutTo less (p :: B) = if less < p.2 then (p.1, p.2 - less) :: cutTo less B else cutTo less B := by
  unfold cutTo
  rw [List.filter_cons]
  by_cases h : less < p.2
  · simp [h]
  · simp [h]
theorem cut_gt {less : Int} (h0 : 0 ≤ less) (f : Int) : ∀ {B : CL}, nd B → gt (cutTo less B) f = if less < gt B f then gt B f - less else 0
  | [], _ => by
    have : gt [] f = 0 := rfl
    have e : gt (cutTo less []) f = 0 := rfl
    rw [e, this, if_neg (by omega)]
  | p :: B, hn => by
    have hn' : p.1 ∉ B.map (·.1) ∧ nd B := by unfold nd at *; rw [List.map_cons, List.nodup_cons] at hn; exact hn
    have ih := cut_gt h0 f hn'.2
    rw [cut_cons]
    by_cases hf : p.1 = f
    · have hB : gt B f = 0 := by
        unfold gt
        rw [lk_none (by
          cases e : has B f with
          | false => rfl
          | true => exact absurd (has_mem.mp e) (hf ▸ hn'.1))]; rfl
      rw [hB, if_neg (by omega)] at ih
      rw [gt_cons p B, if_pos hf]
      by_cases hl : less < p.2
      · rw [if_pos hl, if_pos hl, gt_cons, if_pos hf]
      · rw [if_neg hl, if_neg hl, ih]
    · rw [gt_cons p B, if_neg hf, ← ih]
      by_cases hl : less < p.2
      · rw [if_pos hl, gt_cons, if_neg hf]
      · rw [if_neg hl]
theorem cut_nd {less : Int} {B : CL} (h : nd B) : nd (cutTo less B) := by
  unfold nd cutTo at *
  rw [List.map_map]
  have : ((fun p : Int × Int => p.1) ∘ fun q : Int × Int => (q.1, q.2 - less)) = fun p => p.1 := rfl
  rw [this]
  exact h.sublist ((List.filter_sublist).map _)
theorem cut_pos {less : Int} {B : CL} : ∀ p ∈ cutTo less B, 1 ≤ p.2 := fun p hp => by
  unfold cutTo at hp
  obtain ⟨q, hq, rfl⟩ := List.mem_map.mp hp
  have := of_decide_eq_true (List.mem_filter.mp hq).2
  show 1 ≤ q.2 - less
  omega
/-- two lots and what is lost of them -/
theorem lots_ok {many : Int} (h0 : 0 ≤ many) (h2 : many ≤ 20) (a b : List Int) (hl : (a ++ b).length ≤ 500) (ha : ∀ f ∈ a ++ b, 0 ≤ f ∧ f ≤ 1000) :
    ((mg many a).2 + (mg many b).2 + lessOf many (both (sortP (mg many a).1) (sortP (mg many b).1))) * (many + 1) ≤ (a ++ b).length ∧
    ((sortP (cutTo (lessOf many (both (sortP (mg many a).1) (sortP (mg many b).1))) (both (sortP (mg many a).1) (sortP (mg many b).1)))).length : Int) ≤ many ∧
    ∀ f, ((a ++ b).count f : Int) - ((mg many a).2 + (mg many b).2 + lessOf many (both (sortP (mg many a).1) (sortP (mg many b).1))) ≤ gt (sortP (cutTo (lessOf many (both (sortP (mg many a).1) (sortP (mg many b).1))) (both (sortP (mg many a).1) (sortP (mg many b).1)))) f ∧
      gt (sortP (cutTo (lessOf many (both (sortP (mg many a).1) (sortP (mg many b).1))) (both (sortP (mg many a).1) (sortP (mg many b).1)))) f ≤ (a ++ b).count f := by
  have Ma := mg_ok h0 a
  have Mb := mg_ok h0 b
  rw [List.length_append] at hl
  have Ra := rows_of (fs := a) h0 h2 (by omega) fun f hf => ha f (List.mem_append_left _ hf)
  have Rb := rows_of (fs := b) h0 h2 (by omega) fun f hf => ha f (List.mem_append_right _ hf)
  have pa := sortP_perm (mg many a).1
  have pb := sortP_perm (mg many b).1
  have sa : sumC (sortP (mg many a).1) = sumC (mg many a).1 := sum_perm (pa.map _)
  have sb : sumC (sortP (mg many b).1) = sumC (mg many b).1 := sum_perm (pb.map _)
  have ga := fun f => gt_perm pa (rows_nd Ra) (rows_pos Ra) f
  have gb := fun f => gt_perm pb (rows_nd Rb) (rows_pos Rb) f
  generalize hL1 : sortP (mg many a).1 = L1 at *
  generalize hL2 : sortP (mg many b).1 = L2 at *
  have nB := both_nd L2 L1 (rows_nd Ra)
  have pB := both_pos L2 L1 (rows_pos Ra) (rows_pos Rb)
  have sB := sum_both L2 L1 (rows_nd Ra)
  obtain ⟨h5, h6⟩ := less_sum (M := both L1 L2) h0 pB
  have gB : ∀ f, gt (both L1 L2) f = gt (mg many a).1 f + gt (mg many b).1 f := fun f => by rw [both_gt, part_gt (rows_nd Rb), ga, gb]
  refine ⟨?_, ?_, fun f => ?_⟩
  · have h3 := Ma.sum
    have h4 := Mb.sum
    rw [Int.add_mul, Int.add_mul, List.length_append]
    omega
  · rw [(sortP_perm _).length_eq]; exact cut_len h0
  · have e : gt (sortP (cutTo (lessOf many (both L1 L2)) (both L1 L2))) f = gt (cutTo (lessOf many (both L1 L2)) (both L1 L2)) f := (gt_perm (sortP_perm _).symm (cut_nd nB) cut_pos f).symm
    rw [e, cut_gt h6 f nB, gB, List.count_append]
    have := Ma.lo f
    have := Ma.hi f
    have := Mb.lo f
    have := Mb.hi f
    split <;> omega
end G66
set_option maxHeartbeats 1000000
/-! P66ad: drawn names; slices; rows from lists. -/
namespace G66
open PySem PySem.Spec PyProof.Rows L2 Pv
theorem cut_to {α : Type} (xs : List α) (m : Nat) (h : m ≤ xs.length) : cutL xs none (some (m : Int)) = xs.take m := by
  unfold cutL
  rw [HT.sIx_none, HT.sIx_nat, List.drop_zero, Nat.sub_zero, Nat.min_eq_left h]
theorem cut_from {α : Type} (xs : List α) (m : Nat) (h : m ≤ xs.length) : cutL xs (some (m : Int)) none = xs.drop m := by
  unfold cutL
  rw [HT.sIx_none, HT.sIx_nat, Nat.min_eq_left h]
  exact List.take_of_length_le (by rw [List.length_drop]; omega)
theorem cut_toI {xs : List Int} {m : Int} {mN : Nat} (hm : (mN : Int) = m) (h : mN ≤ xs.length) : cutL (xs.map PyData.int) none (some m) = (xs.take mN).map PyData.int := by
  subst hm
  rw [cut_to _ _ (by simpa using h), List.map_take]
theorem cut_fromI {xs : List Int} {m : Int} {mN : Nat} (hm : (mN : Int) = m) (h : mN ≤ xs.length) : cutL (xs.map PyData.int) (some m) none = (xs.drop mN).map PyData.int := by
  subst hm
  rw [cut_from _ _ (by simpa using h), List.map_drop]
theorem repD_ints (k : Int) (xs : List Int) : repD k (xs.map PyData.int) = ((List.replicate k.toNat xs).flatten).map PyData.int := by
  unfold repD
  generalize k.toNat = r
  induction r with
  | zero => rfl
  | succ r ih => rw [List.replicate_succ, List.flatten_cons, List.replicate_succ, List.flatten_cons, List.map_append, ih]
def pool : List Int := (List.range 1001).map fun i : Nat => (i : Int)
theorem pool_nd : pool.Nodup := by
  unfold pool
  rw [List.nodup_iff_pairwise_ne, List.pairwise_map]
  exact (List.nodup_iff_pairwise_ne.mp List.nodup_range).imp fun h e => h (by omega)
theorem pool_mem {x : Int} (h : x ∈ pool) : 0 ≤ x ∧ x ≤ 1000 := by
  unfold pool at h
  obtain ⟨i, hi, rfl⟩ := List.mem_map.mp h
  have := List.mem_range.mp hi
  omega
theorem pool_len : pool.length = 1001 := by unfold pool; rw [List.length_map, List.length_range]
theorem rgD_nat (c : Nat) : rgD 0 (c : Int) = ((List.range c).map fun i : Nat => (i : Int)).map PyData.int := by
  unfold rgD
  rw [List.map_map, Int.sub_zero, Int.toNat_natCast]
  refine List.map_congr_left fun i _ => ?_
  show PyData.int (0 + (i : Int)) = PyData.int (i : Int)
  rw [Int.zero_add]
theorem rg_pool : rgD 0 1001 = pool.map PyData.int := rgD_nat 1001
theorem e_pool {env : Pv.Env} {S : Sto} : lrg1F (conF (.int 1001)) env S = some (.loc S.length, S ++ [.lst (pool.map PyData.int)]) := by
  have h := lrg_ok (c := 1001) (fe := conF (.int ((1001 : Nat) : Int))) (env := env) (S := S) e_con (by decide)
  have e : ((1001 : Nat) : Int) = 1001 := rfl
  rw [e, rg_pool] at h
  exact h
/-- names drawn from all: unlike, from 0 to 1000 -/
structure Names (m : Nat) (ns : List Int) : Prop where
  len : ns.length = m
  nd : ns.Nodup
  rg : ∀ x ∈ ns, 0 ≤ x ∧ x ≤ 1000
theorem p_names {k : Int} {p C : O} (h : PotOk k p) (R : Sto) (m : Nat) (hm : m ≤ 1001) (hk : k + m ≤ 1000000) : ∃ p' ns, Names m ns ∧ PotOk (k + m) p' ∧
    m__law_some [.loc 1, .loc (R.length + 2), .p (.int (m : Int))] (C :: p :: (R ++ [.lst (pool.map PyData.int)])) = some (.loc (R.length + 3), C :: p' :: (R ++ [.lst (pool.map PyData.int), .lst (ns.map PyData.int)])) := by
  obtain ⟨p', ys, rest, e, h1, h2, h3⟩ := p_some (C := C) (R := R ++ [.lst (pool.map PyData.int)]) (q := R.length + 2) (xs := pool) (many := m) h hk (by simp) (by omega) (by rw [pool_len]; exact hm) (by rw [pool_len]; decide)
  have hn : ys.Nodup := (List.nodup_append.mp (h3.nodup_iff.mpr pool_nd)).1
  refine ⟨p', ys, ⟨h2, hn, fun x hx => pool_mem (h3.mem_iff.mp (List.mem_append_left _ hx))⟩, h1, ?_⟩
  rw [e]
  simp
theorem wipe1 (env : Pv.Env) (i : Nat) : wipeE env [i] = env.set i none := rfl
theorem lc_ints {fe f : EF} {env : Pv.Env} {S S' : Sto} {i j : Nat} {xs : List Int} (g : Int → D) (h : fe env S = some (.loc j, S')) (hj : S'[j]? = some (.lst (xs.map PyData.int))) (hx : xs.length ≤ 100000)
    (hf : ∀ (x : Int) (acc : List D), x ∈ xs → f ((env.set i none).set i (some (.p (.int x)))) (S' ++ [.lst acc]) = some (.p (g x), S' ++ [.lst acc])) :
    lcF (lstI fe) (nameG i) yesT f [i] env S = some (.loc S'.length, S' ++ [.lst (xs.map g)]) := by
  have hgd : GdOk [(j, O.lst (xs.map PyData.int))] S' := fun p hp => by
    have : p = (j, O.lst (xs.map PyData.int)) := by simpa using hp
    subst this; exact hj
  have key : lcGo (nameG i) yesT f (wipeE env [i]) S'.length [(j, .lst (xs.map PyData.int))] (xs.map PyData.int) [] S' = some (xs.map g, S') := by
    rw [lc_pure (fun _ => true) (fun x => match x with | .int n => g n | d => d) rfl hgd (xs.map PyData.int) [] (by simpa using hx) (fun x acc hx => by
      obtain ⟨n, hn, rfl⟩ := List.mem_map.mp hx
      exact ⟨_, g_name, e_yes, fun _ => hf n acc hn⟩)]
    rw [List.nil_append, List.filter_eq_self.mpr (fun _ _ => rfl), List.map_map]
    rfl
  rw [e_lc, i_lst, h, Option.bind_some, i_lstK hj, Option.bind_some, e_lc1 key]
theorem set_get {env : Pv.Env} {i : Nat} (hi : i < env.length) (t : T) : ((env.set i none).set i (some t))[i]? = some (some t) := by
  rw [List.getElem?_set_self (by simpa using hi)]
theorem p_namesF {k : Int} {p C : O} (h : PotOk k p) (R : Sto) (m : Nat) (hm : m ≤ 1001) (hk : k + m ≤ 1000000) {fe : EF} {env : Pv.Env} {i : Nat} (hi : i < env.length) (h0 : env[0]? = some (some (.loc 1)))
    (he : fe env (C :: p :: (R ++ [.lst (pool.map PyData.int)])) = some (.p (.int (m : Int)), C :: p :: (R ++ [.lst (pool.map PyData.int)]))) : ∃ p' ns, Names m ns ∧ PotOk (k + m) p' ∧
    lcF (lstI (callF 3 m__law_some (consF (varF 0) (consF (lrg1F (conF (.int 1001))) (consF fe nilF))))) (nameG i) yesT (argF intT (consF (varF i) nilF)) [i] env (C :: p :: R)
      = some (.loc (R.length + 4), C :: p' :: (R ++ [.lst (pool.map PyData.int), .lst (ns.map PyData.int), .lst (ns.map PyData.int)])) := by
  obtain ⟨p', ns, N, hp, e⟩ := p_names (C := C) h R m hm hk
  refine ⟨p', ns, N, hp, ?_⟩
  have c1 : callF 3 m__law_some (consF (varF 0) (consF (lrg1F (conF (.int 1001))) (consF fe nilF))) env (C :: p :: R) = some (.loc (R.length + 3), C :: p' :: (R ++ [.lst (pool.map PyData.int), .lst (ns.map PyData.int)])) := by
    have q := e_pool (env := env) (S := C :: p :: R)
    rw [e_call, e_cons, e_var, h0, e_varK, dn_loc, Option.bind_some, e_cons1, e_cons, q, Option.bind_some, e_cons1, e_cons]
    rw [show (C :: p :: R ++ [O.lst (pool.map PyData.int)]) = C :: p :: (R ++ [O.lst (pool.map PyData.int)]) from rfl, he]
    simp only [Option.bind_some, e_cons1, e_nil, Option.map_some, e_cons2]
    exact (e_callK (n := 3) rfl).trans e
  have := lc_ints (i := i) (f := argF intT (consF (varF i) nilF)) (xs := ns) (fun n => .int n) c1 (by simp) (by rw [N.len]; omega) fun x acc _ => by
    rw [e_arg, e_cons, e_var, set_get hi]
    simp
  rw [this]
  simp
end G66
set_option maxHeartbeats 1000000
/-! P66ae: the run of turns, first half. -/
namespace G66
open PySem PySem.Spec PyProof.Rows L2 Pv
abbrev tuE (m : Int) (x2 x3 x4 x5 x6 x7 x8 x9 x10 : Option T) : Pv.Env := [some (.loc 1), some (.p (.int m)), x2, x3, x4, x5, x6, x7, x8, x9, x10, none, none]
theorem tu1 {k : Int} {p C : O} (h : PotOk k p) (hk : k ≤ 900000) (m : Int) : ∃ p' r, PotOk (k + 1) p' ∧ 0 ≤ r ∧ r < 15 ∧ setS 2 (argF intT (consF (callF 2 m__law_take (consF (varF 0) (consF (conF (.int 15)) nilF))) nilF)) 2 (tuE m none none none none none none none none none) [C, p]
    = some (.nx, tuE m (some (.p (.int r))) none none none none none none none none, [C, p']) := by
  obtain ⟨p', r, e, h1, h2, h3⟩ := p_take (C := C) (R := []) (u := 15) h (by omega) (by decide) (by decide)
  exact ⟨p', r, h1, h2, h3, by simp [e]⟩
theorem tu2 {k : Int} {p C : O} (h : PotOk k p) (hk : k ≤ 900000) (m : Int) (mN : Nat) (hm : (mN : Int) = m) (h2 : mN ≤ 20) (x2 : Option T) : ∃ p' ns, PotOk (k + (mN + 1 : Nat)) p' ∧ Names (mN + 1) ns ∧ setS 3 (lcF (lstI (callF 3 m__law_some (consF (varF 0) (consF (lrg1F (conF (.int 1001))) (consF (binF addT (varF 1) (conF (.int 1))) nilF))))) (nameG 11) yesT (argF intT (consF (varF 11) nilF)) [11]) 2 (tuE m x2 none none none none none none none none) [C, p]
    = some (.nx, tuE m x2 (some (.loc 2)) none none none none none none none, [C, p', .lst (ns.map PyData.int)]) := by
  obtain ⟨p', ns, N, hp, e⟩ := p_namesF (C := C) h [] (mN + 1) (by omega) (by omega) (fe := binF addT (varF 1) (conF (.int 1))) (env := tuE m x2 none none none none none none none none) (i := 11) (by simp) rfl (by
    have : m + 1 = ((mN + 1 : Nat) : Int) := by omega
    rw [← this]; simp)
  refine ⟨p', ns, hp, N, ?_⟩
  rw [s_set, e]
  simp [gcV, gcT, gcOb, putSlot, putLoc]
theorem tu3 (C p : O) (m r : Int) (mN : Nat) (hm : (mN : Int) = m) (ns : List Int) (N : Names (mN + 1) ns) (h2 : mN ≤ 20) (h3 : 0 ≤ r) (h4 : r < 15) : parS 4 5 (consF (binF mulT (argF tupleT (consF (sliceF (varF 3) noO (someO (varF 1))) nilF)) (varF 2)) (consF (binF mulT (argF tupleT (consF (varF 3) nilF)) (varF 2)) nilF)) 2 (tuE m (some (.p (.int r))) (some (.loc 2)) none none none none none none none) [C, p, .lst (ns.map PyData.int)]
    = some (.nx, tuE m (some (.p (.int r))) (some (.loc 2)) (some (.p (.tuple (((List.replicate r.toNat (ns.take mN)).flatten).map PyData.int)))) (some (.p (.tuple (((List.replicate r.toNat ns).flatten).map PyData.int)))) none none none none none, [C, p, .lst (ns.map PyData.int)]) := by
  have l := N.len
  have c := cut_toI (xs := ns) hm (by omega)
  have a1 : -(2 ^ 63) ≤ r ∧ r ≤ 1000 := by omega
  rw [← repD_ints, ← repD_ints]
  have q1 : ∀ S, mulT (.p (.tuple (List.take mN (ns.map PyData.int)))) (.p (.int r)) S = some (.p (.tuple (repD r (List.take mN (ns.map PyData.int)))), S) := fun S => e_mulP ⟨by omega, by omega, by rw [List.length_take, List.length_map]; omega⟩
  have q2 : ∀ S, mulT (.p (.tuple (ns.map PyData.int))) (.p (.int r)) S = some (.p (.tuple (repD r (ns.map PyData.int))), S) := fun S => e_mulP ⟨by omega, by omega, by rw [List.length_map]; omega⟩
  simp [sliceF, noO, someO, slT, lstOf, c, q1, q2]
theorem tu4 (C p : O) (m r : Int) (mN : Nat) (hm : (mN : Int) = m) (ns : List Int) (N : Names (mN + 1) ns) (h2 : mN ≤ 20) (h3 : 0 ≤ r) (h4 : r < 15) (x4 x5 : D) : setS 6 (ifF (asT (binF gtI (varF 2) (conF (.int 0)))) (argF tupleT (consF (argF sortedT (consF (lcF (lstI (sliceF (varF 3) noO (someO (varF 1)))) (nameG 11) yesT (tupF (consF (varF 11) (consF (varF 2) nilF))) [11]) nilF)) nilF)) (tupF nilF)) 2 (tuE m (some (.p (.int r))) (some (.loc 2)) (some (.p x4)) (some (.p x5)) none none none none none) [C, p, .lst (ns.map PyData.int)]
    = some (.nx, tuE m (some (.p (.int r))) (some (.loc 2)) (some (.p x4)) (some (.p x5)) (some (.p (.tuple ((sortP (if 0 < r then (ns.take mN).map (fun n => (n, r)) else [])).map pairI)))) none none none none, [C, p, .lst (ns.map PyData.int)]) := by
  have l := N.len
  have c := cut_toI (xs := ns) hm (by omega)
  by_cases hr : 0 < r
  · have q := lc_ints (fe := sliceF (varF 3) noO (someO (varF 1))) (f := tupF (consF (varF 11) (consF (varF 2) nilF))) (env := tuE m (some (.p (.int r))) (some (.loc 2)) (some (.p x4)) (some (.p x5)) none none none none none) (S := [C, p, .lst (ns.map PyData.int)]) (S' := [C, p, .lst (ns.map PyData.int), .lst ((ns.take mN).map PyData.int)]) (i := 11) (j := 3) (xs := ns.take mN) (fun n => pairI (n, r)) (by
        simp [sliceF, noO, someO, slT, lstOf, c]) rfl (by simp; omega) fun x acc _ => by
      simp [tupT, allP, pairI]
    have e : (ns.take mN).map (fun n => pairI (n, r)) = ((ns.take mN).map fun n => (n, r)).map pairI := by rw [List.map_map]; rfl
    rw [e] at q
    have s := sortD_pairs' ((ns.take mN).map fun n => (n, r))
    rw [if_pos hr, s_set, e_if]
    rw [show asT (binF gtI (varF 2) (conF (.int 0))) (tuE m (some (.p (.int r))) (some (.loc 2)) (some (.p x4)) (some (.p x5)) none none none none none) [C, p, .lst (ns.map PyData.int)] = some (true, [C, p, .lst (ns.map PyData.int)]) by simp [hr], Option.bind_some, e_if1 rfl, e_arg, e_cons, e_arg, e_cons, q]
    have st := e_sorted (S := [C, p, .lst (ns.map PyData.int), .lst ((ns.take mN).map PyData.int), .lst (((ns.take mN).map fun n => (n, r)).map pairI)]) (i := 4) rfl s
    simp only [List.length_cons, List.length_nil, List.cons_append, List.nil_append, Option.bind_some, e_cons1, e_nil, Option.map_some, e_cons2, e_argK] at st ⊢
    rw [st]
    simp
  · rw [if_neg hr]
    simp [hr, tupT, allP, sortP]
end G66
set_option maxHeartbeats 1000000
/-! P66af: the run of turns, the looks at few and more. -/
namespace G66
open PySem PySem.Spec PyProof.Rows L2 Pv
/-- flows that may be counted -/
structure Fl (fs : List Int) : Prop where
  len : fs.length ≤ 500
  rg : ∀ f ∈ fs, 0 ≤ f ∧ f ≤ 1000
abbrev tI (ns : List Int) : D := .tuple (ns.map PyData.int)
abbrev tP (L : CL) : D := .tuple (L.map pairI)
theorem tu5 (C p l : O) (m r : Int) (h1 : 1 ≤ m) (h2 : m ≤ 20) (x2 x3 x7 : Option T) (few more : List Int) (due : CL) (b1 : Fl few) (b2 : Fl more) (f1 : sortP (mg m few).1 = due) (f2 : (mg m few).2 = 0) (f3 : mg m more = ([], r)) :
    ifS (orT (asT (binF (eqT true) (callF 2 m_counters (consF (varF 1) (consF (varF 4) nilF))) (tupF (consF (varF 6) (consF (conF (.int 0)) nilF))))) (asT (binF (eqT true) (callF 2 m_counters (consF (varF 1) (consF (varF 5) nilF))) (tupF (consF (tupF nilF) (consF (varF 2) nilF)))))) (retS (conF (.bool false))) nextS 2 (tuE m (some (.p (.int r))) x3 (some (.p (tI few))) (some (.p (tI more))) (some (.p (tP due))) none none none none) [C, p, l]
    = some (.nx, tuE m (some (.p (.int r))) x3 (some (.p (tI few))) (some (.p (tI more))) (some (.p (tP due))) none none none none, [C, p, l]) := by
  have e1 := fun S => r_counters S m few h1 h2 b1.len b1.rg
  have e2 := fun S => r_counters S m more h1 h2 b2.len b2.rg
  rw [f1, f2] at e1
  rw [f3] at e2
  have q1 : ∀ S, eqT true (.mix [.ft (due.map pairI), .p (.int 0)]) (.p (.tuple [.tuple (due.map pairI), .int 0])) S = some (.p (.bool false), S) := fun S => eq_same (b := true) rfl rfl (dk_pair (dk_rows (k := 57) due) (dk_int 0))
  have q2 : ∀ S, eqT true (.mix [.ft [], .p (.int r)]) (.p (.tuple [.tuple [], .int r])) S = some (.p (.bool false), S) := fun S => eq_same (b := true) rfl rfl (dk_pair (dk_rows (k := 57) []) (dk_int r))
  refine if_nx (S' := [C, p, l]) ?_ rfl
  simp [e1, e2, tupT, allP, q1, q2, sortP]
theorem tu6 (C p l : O) (m r : Int) (h1 : 1 ≤ m) (h2 : m ≤ 20) (x3 x6 : Option T) (few more : List Int) (b1 : few.length ≤ 500) (b2 : more.length ≤ 500) (h0 : (more.length : Int) = r * (m + 1)) :
    ifS (orT (asT (binF (eqT true) (callF 2 m_most_lost (consF (varF 1) (consF (argF lenT (consF (varF 5) nilF)) nilF))) (varF 2))) (asT (binF (eqT true) (callF 2 m_most_lost (consF (varF 1) (consF (argF lenT (consF (varF 4) nilF)) nilF))) (binF divI (argF lenT (consF (varF 4) nilF)) (binF addT (varF 1) (conF (.int 1))))))) (retS (conF (.bool false))) nextS 2 (tuE m (some (.p (.int r))) x3 (some (.p (tI few))) (some (.p (tI more))) x6 none none none none) [C, p, l]
    = some (.nx, tuE m (some (.p (.int r))) x3 (some (.p (tI few))) (some (.p (tI more))) x6 none none none none, [C, p, l]) := by
  have e1 := fun S => r_most S m few.length h1 h2 (by omega) (by omega)
  have e2 := fun S => r_most S m more.length h1 h2 (by omega) (by omega)
  have d2 : (more.length : Int) / (m + 1) = r := by rw [h0]; exact Int.mul_ediv_cancel _ (by omega)
  rw [d2] at e2
  have cd : ∀ n : Int, CDiv n (m + 1) := fun n => ⟨by omega, by omega⟩
  refine if_nx (S' := [C, p, l]) ?_ rfl
  simp [e1, e2, cd]
theorem tu7 (C p : O) (m r : Int) (h1 : 1 ≤ m) (h2 : m ≤ 20) (x4 x6 : Option T) (more : List Int) (x : Int) (ns : List Int) (b2 : Fl (more ++ [x])) (h0 : hv (m + 1) more = []) (h3 : hv (m + 1) (more ++ [x]) = [x]) :
    ifS (orT (asT (binF (eqT true) (callF 2 m_heavy (consF (varF 5) (consF (binF addT (varF 1) (conF (.int 1))) nilF))) (tupF nilF))) (asT (binF (eqT true) (callF 2 m_heavy (consF (binF addT (varF 5) (argF tupleT (consF (sliceF (varF 3) noO (someO (conF (.int 1)))) nilF))) (consF (binF addT (varF 1) (conF (.int 1))) nilF))) (argF tupleT (consF (sliceF (varF 3) noO (someO (conF (.int 1)))) nilF))))) (retS (conF (.bool false))) nextS 2 (tuE m (some (.p (.int r))) (some (.loc 2)) x4 (some (.p (tI more))) x6 none none none none) [C, p, .lst ((x :: ns).map PyData.int)]
    = some (.nx, tuE m (some (.p (.int r))) (some (.loc 2)) x4 (some (.p (tI more))) x6 none none none none, [C, p, .lst ((x :: ns).map PyData.int)]) := by
  have bl := b2.len
  rw [List.length_append, List.length_singleton] at bl
  have e1 := fun S => r_heavy S (m + 1) more (by omega) (fun f hf => b2.rg f (List.mem_append_left _ hf)) (by omega) (by omega)
  have e2 := fun S => r_heavy S (m + 1) (more ++ [x]) b2.len b2.rg (by omega) (by omega)
  rw [h0] at e1
  rw [h3] at e2
  have c := cut_toI (xs := x :: ns) (m := 1) (mN := 1) rfl (by simp)
  have s1 : sortI [x] = [x] := by simp [sortI]
  have s0 : sortI [] = [] := by simp [sortI]
  rw [s1] at e2
  rw [s0] at e1
  have q1 : ∀ S, eqT true (.p (.tuple [])) (.p (.tuple [])) S = some (.p (.bool false), S) := fun S => eq_same (b := true) rfl rfl (dk_ints (k := 59) [])
  have q2 : ∀ S, eqT true (.p (.tuple [.int x])) (.p (.tuple [.int x])) S = some (.p (.bool false), S) := fun S => eq_same (b := true) rfl rfl (dk_ints (k := 59) [x])
  have a : ∀ S, addT (.p (.tuple (more.map PyData.int))) (.p (.tuple [.int x])) S = some (.p (.tuple (more.map PyData.int ++ [.int x])), S) := fun S => e_addP (by rw [sizeLine_eq, List.length_map, List.length_singleton]; omega) (.inr (by simp))
  simp only [List.map_append, List.map_cons, List.map_nil] at e1 e2 c
  simp only [List.take_succ_cons, List.take_zero, List.map_cons, List.map_nil] at c
  refine if_nx (S' := [C, p, .lst ((x :: ns).map PyData.int), .lst [.int x], .lst [.int x]]) ?_ rfl
  simp [e1, e2, tupT, allP, q1, q2, sliceF, noO, someO, slT, lstOf, c, a]
theorem rep_one (r : Int) (x : Int) : repD r [.int x] = (List.replicate r.toNat x).map PyData.int := by
  have := repD_ints r [x]
  rw [List.map_singleton] at this
  rw [this]
  congr 1
  generalize r.toNat = k
  induction k with
  | zero => rfl
  | succ k ih => rw [List.replicate_succ, List.flatten_cons, ih, List.replicate_succ]; rfl
theorem tu8 (C p : O) (m r : Int) (h3 : 0 ≤ r) (h4 : r < 15) (x4 x5 x6 : Option T) (x : Int) (ns : List Int) :
    setS 7 (binF mulT (tupF (consF (binF ixT (varF 3) (conF (.int 0))) nilF)) (binF addT (varF 2) (conF (.int 1)))) 2 (tuE m (some (.p (.int r))) (some (.loc 2)) x4 x5 x6 none none none none) [C, p, .lst ((x :: ns).map PyData.int)]
    = some (.nx, tuE m (some (.p (.int r))) (some (.loc 2)) x4 x5 x6 (some (.p (tI (List.replicate (r.toNat + 1) x)))) none none none, [C, p, .lst ((x :: ns).map PyData.int)]) := by
  have q1 : ∀ S, mulT (.p (.tuple [.int x])) (.p (.int (r + 1))) S = some (.p (.tuple (repD (r + 1) [.int x])), S) := fun S => e_mulP ⟨by omega, by omega, by simp⟩
  rw [rep_one, show (r + 1).toNat = r.toNat + 1 by omega] at q1
  simp [q1, tupT, allP]
theorem dk_str {k : Nat} {x : Str} (h : PyData.strOk x = true) : Dk k (.str x) := ⟨by simp [PyData.canLay0, h], by simp [PyData.depth]⟩
theorem tu9 (C p : O) (m r : Int) (h1 : 1 ≤ m) (h2 : m ≤ 20) (h3 : 0 ≤ r) (h4 : r < 15) (x4 x5 x6 : Option T) (x : Int) (hx : 0 ≤ x ∧ x ≤ 1000) (ns : List Int) :
    ifS (orT (asT (binF (eqT true) (callF 2 m_counters (consF (varF 1) (consF (varF 7) nilF))) (tupF (consF (tupF (consF (tupF (consF (binF ixT (varF 3) (conF (.int 0))) (consF (binF addT (varF 2) (conF (.int 1))) nilF))) nilF)) (consF (conF (.int 0)) nilF))))) (asT (binF (eqT true) (callF 3 m_sure_by (consF (varF 1) (consF (varF 7) (consF (binF ixT (varF 3) (conF (.int 0))) nilF)))) (conF (.str "sure"))))) (retS (conF (.bool false))) nextS 2 (tuE m (some (.p (.int r))) (some (.loc 2)) x4 x5 x6 (some (.p (tI (List.replicate (r.toNat + 1) x)))) none none none) [C, p, .lst ((x :: ns).map PyData.int)]
    = some (.nx, tuE m (some (.p (.int r))) (some (.loc 2)) x4 x5 x6 (some (.p (tI (List.replicate (r.toNat + 1) x)))) none none none, [C, p, .lst ((x :: ns).map PyData.int)]) := by
  have hb : ∀ f ∈ List.replicate (r.toNat + 1) x, 0 ≤ f ∧ f ≤ 1000 := fun f hf => by rw [List.eq_of_mem_replicate hf]; exact hx
  have hl : (List.replicate (r.toNat + 1) x).length ≤ 500 := by rw [List.length_replicate]; omega
  have e1 := fun S => r_counters S m _ h1 h2 hl hb
  have e2 := fun S => r_sure S m x _ h1 h2 hl hb hx.1 hx.2
  have g := mg_lone h1 x r.toNat
  have hr : ((r.toNat : Nat) : Int) = r := by omega
  rw [hr] at g
  have w : word m (List.replicate (r.toNat + 1) x) x = .str "sure" := by
    unfold word
    rw [g, List.length_replicate]
    have : gt [(x, r + 1)] x = r + 1 := by simp [gt, lk]
    rw [this, if_pos]
    rw [show (((r.toNat + 1 : Nat)) : Int) = r + 1 by omega, Int.mul_add, Int.mul_one]
    have : 0 < (r + 1) * m := Int.mul_pos (by omega) (by omega)
    omega
  rw [g] at e1
  rw [w] at e2
  have s1 : sortP [(x, r + 1)] = [(x, r + 1)] := by simp [sortP]
  rw [s1] at e1
  have q1 : ∀ S, eqT true (.mix [.ft [.tuple [.int x, .int (r + 1)]], .p (.int 0)]) (.p (.tuple [.tuple [.tuple [.int x, .int (r + 1)]], .int 0])) S = some (.p (.bool false), S) := fun S => eq_same (b := true) rfl rfl (dk_pair (dk_rows (k := 57) [(x, r + 1)]) (dk_int 0))
  have q2 : ∀ S, eqT true (.p (.str "sure")) (.p (.str "sure")) S = some (.p (.bool false), S) := fun S => eq_same (b := true) rfl rfl (dk_str (by decide +kernel))
  simp only [List.map_cons, List.map_nil, pairI] at e1
  refine if_nx (S' := [C, p, .lst ((x :: ns).map PyData.int)]) ?_ rfl
  simp only [tI] at *
  simp [-List.map_replicate, e1, e2, tupT, allP, q1, q2]
end G66
set_option maxHeartbeats 1000000
/-! P66ag: the run of turns, who comes more often than all others. -/
namespace G66
open PySem PySem.Spec PyProof.Rows L2 Pv
theorem lc_relN {gf : GF} {ft : TF} {fe : EF} {env : Pv.Env} {m : Nat} {gd : Gd} (R : List D → Sto → Prop) (hR : ∀ a S, R a S → S.length = m ∧ GdOk gd S) (xs acc : List D) (S : Sto) (hl : acc.length + xs.length ≤ 100000) (r : R acc S)
    (h : ∀ x acc S, x ∈ xs → acc.length ≤ 100000 → R acc S → ∃ env1 y S', gf (.p x) env (S ++ [.lst acc]) = some (env1, S ++ [.lst acc]) ∧ ft env1 (S ++ [.lst acc]) = some (true, S ++ [.lst acc]) ∧ fe env1 (S ++ [.lst acc]) = some (.p y, S' ++ [.lst acc]) ∧ R (acc ++ [y]) S') :
    ∃ out S', lcGo gf ft fe env m gd xs acc S = some (out, S') ∧ R out S' ∧ out.length = acc.length + xs.length := by
  have key : ∀ (ys : List D) (acc : List D) (S : Sto), (∀ y ∈ ys, y ∈ xs) → acc.length + ys.length ≤ 100000 → R acc S → ∃ out S', lcGo gf ft fe env m gd ys acc S = some (out, S') ∧ R out S' ∧ out.length = acc.length + ys.length := by
    intro ys
    induction ys with
    | nil => exact fun acc S _ _ r => ⟨acc, S, by simp only [lcGo]; rw [if_pos (hR _ _ r).2], r, by simp⟩
    | cons x ys ih =>
      intro acc S hy hl r
      simp only [List.length_cons] at hl
      obtain ⟨env1, y, S1, e1, e2, e3, r1⟩ := h x acc S (hy x List.mem_cons_self) (by omega) r
      have hsz : acc.length < sizeLine := by rw [sizeLine_eq]; omega
      obtain ⟨out, S', e4, r4, l4⟩ := ih (acc ++ [y]) S1 (fun z hz => hy z (List.mem_cons_of_mem _ hz)) (by rw [List.length_append, List.length_singleton]; omega) r1
      refine ⟨out, S', ?_, r4, by rw [l4, List.length_append, List.length_singleton, List.length_cons]; omega⟩
      simp only [lcGo]
      rw [if_pos (hR _ _ r).2, e1, Option.bind_some, e2, Option.bind_some]
      simp only [if_true]
      rw [e3, Option.bind_some]
      simp only
      rw [unsnoc_app (hR _ _ r1).1, Option.bind_some]
      simp only
      rw [if_pos hsz, e4]
  exact key xs acc S (fun _ h => h) hl r
/-- numbers drawn one by one in a comprehension over range(n): what each is, is told by f -/
theorem p_row {k u : Int} {C p : O} (h : PotOk k p) (R : Sto) (hk : k ≤ 800000) (hu : 0 < u) (hu2 : u < 1000000) (n : Nat) (hn : n ≤ 1000) (P : Int → Prop) {fe : EF} {env : Pv.Env} {i : Nat} {fA : AF} {S : Sto}
    (hi : fA env S = some ([.p (.int (n : Int))], C :: p :: R))
    (hf : ∀ (p p' : O) (R' : Sto) (d : Int) (z : D), m__law_take [.loc 1, .p (.int u)] (C :: p :: (R ++ R')) = some (.p (.int d), C :: p' :: (R ++ R')) → 0 ≤ d → d < u → ∃ y, P y ∧ fe ((env.set i none).set i (some (.p z))) (C :: p :: (R ++ R')) = some (.p (.int y), C :: p' :: (R ++ R'))) :
    ∃ (p' : O) (os : List Int), PotOk (k + n) p' ∧ os.length = n ∧ (∀ y ∈ os, P y) ∧ lcF (range1I fA) (nameG i) yesT fe [i] env S = some (.loc (R.length + 2), C :: p' :: (R ++ [.lst (os.map PyData.int)])) := by
  obtain ⟨out, S', e, ⟨p', os, rfl, rfl, hp, ho⟩, hlen⟩ := lc_relN (gf := nameG i) (ft := yesT) (fe := fe) (m := R.length + 2) (gd := []) (env := env.set i none)
    (fun acc S => ∃ (p' : O) (os : List Int), S = C :: p' :: R ∧ acc = os.map PyData.int ∧ PotOk (k + os.length) p' ∧ ∀ f ∈ os, P f) (fun a S ⟨p', os, e, _⟩ => ⟨by rw [e]; rfl, gd_nil⟩) (rangeL 0 n) [] (C :: p :: R) (by rw [rangeL_len]; simp; omega) ⟨p, [], rfl, rfl, by simpa using h, by simp⟩ (fun z acc S hz hacc ⟨p1, os, e1, e2, h5, h6⟩ => by
      subst e1 e2
      rw [List.length_map] at hacc
      obtain ⟨p2, d, e3, h7, h8, h9⟩ := p_take (C := C) (R := R ++ [.lst (os.map PyData.int)]) (u := u) h5 (by omega) hu hu2
      obtain ⟨y, hy, e4⟩ := hf p1 p2 [.lst (os.map PyData.int)] d z e3 h8 h9
      refine ⟨_, .int y, C :: p2 :: R, g_name, e_yes, e4, p2, os ++ [y], rfl, by simp, ?_, ?_⟩
      · have : k + ((os ++ [y]).length : Nat) = k + (os.length : Nat) + 1 := by simp; omega
        rw [this]; exact h7
      · intro f hf
        rcases List.mem_append.mp hf with hf | hf
        · exact h6 f hf
        · rw [List.mem_singleton.mp hf]; exact hy)
  rw [List.length_map, rangeL_len] at hlen
  simp only [List.length_nil, Nat.zero_add] at hlen
  refine ⟨p', os, by rw [← hlen]; exact hp, hlen, ho, ?_⟩
  rw [e_lc, i_range1 hi (by omega), Option.bind_some, e_lc1 (wipe1 env i ▸ e)]
  simp
theorem tu10 {k : Int} {C p : O} (h : PotOk k p) (hk : k ≤ 800000) (m r : Int) (rN mN : Nat) (hr : (rN : Int) = r) (hm : (mN : Int) = m) (h1 : 1 ≤ m) (h2 : m ≤ 20) (h4 : rN < 15) (x4 x5 x6 x7 : D) (x : Int) (ns : List Int) (hl : ns.length = mN) :
    ∃ (p' : O) (os : List Int), PotOk (k + rN) p' ∧ os.length = rN ∧ (∀ f ∈ os, f ∈ ns) ∧ setS 8 (argF tupleT (consF (lcF (range1I (consF (varF 2) nilF)) (nameG 12) yesT (binF ixT (varF 3) (binF addT (conF (.int 1)) (argF intT (consF (callF 2 m__law_take (consF (varF 0) (consF (varF 1) nilF))) nilF)))) [12]) nilF)) 2 (tuE m (some (.p (.int r))) (some (.loc 2)) (some (.p x4)) (some (.p x5)) (some (.p x6)) (some (.p x7)) none none none) [C, p, .lst ((x :: ns).map PyData.int)]
    = some (.nx, tuE m (some (.p (.int r))) (some (.loc 2)) (some (.p x4)) (some (.p x5)) (some (.p x6)) (some (.p x7)) (some (.p (tI os))) none none, [C, p', .lst ((x :: ns).map PyData.int)]) := by
  subst hr
  obtain ⟨p', os, hp, ho, hP, e⟩ := p_row (C := C) h [.lst ((x :: ns).map PyData.int)] hk (u := m) (by omega) (by omega) rN (by omega) (fun f => f ∈ ns) (i := 12) (fe := binF ixT (varF 3) (binF addT (conF (.int 1)) (argF intT (consF (callF 2 m__law_take (consF (varF 0) (consF (varF 1) nilF))) nilF))))
    (env := tuE m (some (.p (.int (rN : Int)))) (some (.loc 2)) (some (.p x4)) (some (.p x5)) (some (.p x6)) (some (.p x7)) none none none) (fA := consF (varF 2) nilF) (S := [C, p, .lst ((x :: ns).map PyData.int)]) (by simp) (fun p p' R' d z e h0 hd => by
      obtain ⟨y, hy⟩ : ∃ y, ns[d.toNat]? = some y := ⟨_, List.getElem?_eq_getElem (by omega)⟩
      refine ⟨y, List.mem_of_getElem? hy, ?_⟩
      have ha : atI ((x :: ns).map PyData.int) (1 + d) = some (.int y) := by
        have := atI_nat (α := D) (xs := (x :: ns).map PyData.int) (j := d.toNat + 1) (v := .int y) (by simp [hy])
        rwa [show ((d.toNat + 1 : Nat) : Int) = 1 + d by omega] at this
      simp only [List.map_cons] at ha
      simp at e
      simp [e, ha])
  refine ⟨p', os, hp, ho, hP, ?_⟩
  rw [s_set, e_arg, e_cons, e]
  simp
end G66
set_option maxHeartbeats 1000000
/-! P66ah: the run of turns, its end; turns whole. -/
namespace G66
open PySem PySem.Spec PyProof.Rows L2 Pv
theorem tu11 {k : Int} {C p : O} (h : PotOk k p) (hk : k ≤ 800000) (m r : Int) (rN : Nat) (hr : (rN : Int) = r) (h4 : rN < 15) (x4 x5 x6 : D) (lone os ns : List Int) (hl : lone.length = rN + 1) (ho : os.length = rN) :
    ∃ (p' : O) (ms : List Int), PotOk (k + (2 * rN + 1 : Nat)) p' ∧ ms.Perm (lone ++ os) ∧ setS 9 (argF tupleT (consF (callF 3 m__law_some (consF (varF 0) (consF (argF listT (consF (binF addT (varF 7) (varF 8)) nilF)) (consF (binF addT (binF mulI (conF (.int 2)) (varF 2)) (conF (.int 1))) nilF)))) nilF)) 2 (tuE m (some (.p (.int r))) (some (.loc 2)) (some (.p x4)) (some (.p x5)) (some (.p x6)) (some (.p (tI lone))) (some (.p (tI os))) none none) [C, p, .lst (ns.map PyData.int)]
    = some (.nx, tuE m (some (.p (.int r))) (some (.loc 2)) (some (.p x4)) (some (.p x5)) (some (.p x6)) (some (.p (tI lone))) (some (.p (tI os))) (some (.p (tI ms))) none, [C, p', .lst (ns.map PyData.int)]) := by
  obtain ⟨p', ys, rest, e, h1, h2, h3⟩ := p_some (C := C) (R := [.lst (ns.map PyData.int), .lst ((lone ++ os).map PyData.int)]) (q := 3) (xs := lone ++ os) (many := 2 * rN + 1) h (by omega) (by simp) (by omega) (by simp; omega) (by simp; omega)
  have hrest : rest = [] := by
    have := h3.length_eq
    simp at this
    exact List.length_eq_zero_iff.mp (by omega)
  subst hrest
  rw [List.append_nil] at h3
  refine ⟨p', ys, h1, h3, ?_⟩
  have e' : ((2 * rN + 1 : Nat) : Int) = 2 * r + 1 := by omega
  rw [e'] at e
  have a : ∀ S, addT (.p (.tuple (lone.map PyData.int))) (.p (.tuple (os.map PyData.int))) S = some (.p (.tuple ((lone ++ os).map PyData.int)), S) := fun S => by
    rw [List.map_append]
    exact e_addP (by rw [sizeLine_eq, List.length_map, List.length_map]; omega) (.inl (fun z => by rw [List.map_eq_nil_iff] at z; rw [z] at hl; simp at hl))
  have cm : CMul 2 r := cmul_l (by decide) (by decide)
  simp only [List.map_append] at e a
  simp at e
  simp [a, cm, e]
theorem tu12 (C p : O) (m r : Int) (x3 x4 x5 x6 x7 x8 : Option T) (l : O) (ms : List Int) (b : Fl ms) (x c less : Int) (e0 : (mg 1 ms).1 = [(x, c)]) (e1 : (mg 1 ms).2 = less) :
    setS 10 (callF 2 m_counters (consF (conF (.int 1)) (consF (varF 9) nilF))) 2 (tuE m (some (.p (.int r))) x3 x4 x5 x6 x7 x8 (some (.p (tI ms))) none) [C, p, l]
    = some (.nx, tuE m (some (.p (.int r))) x3 x4 x5 x6 x7 x8 (some (.p (tI ms))) (some (.mix [.ft [pairI (x, c)], .p (.int less)])), [C, p, l]) := by
  have e2 := r_counters [C, p, l] 1 ms (by decide) (by decide) b.len b.rg
  have s1 : sortP [(x, c)] = [(x, c)] := by simp [sortP]
  rw [e0, e1, s1] at e2
  simp only [List.map_cons, List.map_nil] at e2
  simp [e2, gcV, gcTs, gcT, gcOb]
theorem dn_mix {a : D} {rows : List D} : dn (.mix [.ft rows, .p a]) = .p (.tuple [.tuple rows, a]) := rfl
theorem tu13 (C p : O) (m r : Int) (x4 x5 x6 x7 x8 : Option T) (ns ms : List Int) (b : Fl ms) (x c less : Int) (e0 : hv 2 ms = [x]) :
    ifS (orT (asT (binF (eqT true) (argF lenT (consF (binF ixT (varF 10) (conF (.int 0))) nilF)) (conF (.int 1)))) (orT (asT (binF (eqT true) (binF ixT (binF ixT (binF ixT (varF 10) (conF (.int 0))) (conF (.int 0))) (conF (.int 0))) (binF ixT (varF 3) (conF (.int 0))))) (asT (binF (eqT true) (callF 2 m_heavy (consF (varF 9) (consF (conF (.int 2)) nilF))) (tupF (consF (binF ixT (varF 3) (conF (.int 0))) nilF)))))) (retS (conF (.bool false))) nextS 2 (tuE m (some (.p (.int r))) (some (.loc 2)) x4 x5 x6 x7 x8 (some (.p (tI ms))) (some (.mix [.ft [pairI (x, c)], .p (.int less)]))) [C, p, .lst ((x :: ns).map PyData.int)]
    = some (.nx, tuE m (some (.p (.int r))) (some (.loc 2)) x4 x5 x6 x7 x8 (some (.p (tI ms))) (some (.mix [.ft [pairI (x, c)], .p (.int less)])), [C, p, .lst ((x :: ns).map PyData.int)]) := by
  have e2 := fun S => r_heavy S 2 ms b.len b.rg (by decide) (by decide)
  have s1 : sortI [x] = [x] := by simp [sortI]
  rw [e0, s1] at e2
  simp only [List.map_cons, List.map_nil] at e2
  have q2 : ∀ S, eqT true (.p (.tuple [.int x])) (.p (.tuple [.int x])) S = some (.p (.bool false), S) := fun S => eq_same (b := true) rfl rfl (dk_ints (k := 59) [x])
  refine if_nx (S' := [C, p, .lst ((x :: ns).map PyData.int)]) ?_ rfl
  simp [dn_mix, pairI, e2, q2, tupT, allP]
theorem tu14 (C p l : O) (m r : Int) (x3 x4 x5 x6 x7 x8 : Option T) (ms : List Int) (x c less : Int) (e0 : c + 2 * less = ms.length) :
    retS (binF (eqT false) (binF addT (binF ixT (binF ixT (binF ixT (varF 10) (conF (.int 0))) (conF (.int 0))) (conF (.int 1))) (binF mulI (conF (.int 2)) (binF ixT (varF 10) (conF (.int 1))))) (argF lenT (consF (varF 9) nilF))) 2 (tuE m (some (.p (.int r))) x3 x4 x5 x6 x7 x8 (some (.p (tI ms))) (some (.mix [.ft [pairI (x, c)], .p (.int less)]))) [C, p, l]
    = some (.rt (.p (.bool true)), tuE m (some (.p (.int r))) x3 x4 x5 x6 x7 x8 (some (.p (tI ms))) (some (.mix [.ft [pairI (x, c)], .p (.int less)])), [C, p, l]) := by
  have cm : CMul 2 less := cmul_l (by decide) (by decide)
  refine ret_go ?_
  simp [dn_mix, pairI, cm, e0]
theorem fl_names {n r : Nat} {ns : List Int} (N : Names n ns) (h : r * n ≤ 500) : Fl (List.replicate r ns).flatten :=
  ⟨by rw [len_rep, N.len]; exact h, fun f hf => by
    obtain ⟨l, h1, h2⟩ := List.mem_flatten.mp hf
    rw [List.eq_of_mem_replicate h1] at h2
    exact N.rg f h2⟩
theorem r_turns {k : Int} {C p : O} (h : PotOk k p) (hk : k ≤ 700000) (m : Int) (h1 : 1 ≤ m) (h2 : m ≤ 20) : ∃ p', m__law_are_turns_right [.loc 1, .p (.int m)] [C, p] = some (.p (.bool true), [C, p']) ∧ PotOk (k + 100) p' := by
  obtain ⟨mN, hm⟩ := Int.eq_ofNat_of_zero_le (show 0 ≤ m by omega)
  replace hm : (mN : Int) = m := hm.symm
  obtain ⟨p1, r, hp1, r0, r1, b1⟩ := tu1 (C := C) h (by omega) m
  obtain ⟨rN, hr⟩ := Int.eq_ofNat_of_zero_le r0
  replace hr : (rN : Int) = r := hr.symm
  have hrt : r.toNat = rN := by omega
  obtain ⟨p2, ns, hp2, N, b2⟩ := tu2 (C := C) hp1 (by omega) m mN hm (by omega) (some (.p (.int r)))
  have b3 := tu3 C p2 m r mN hm ns N (by omega) r0 r1
  rw [hrt] at b3
  obtain ⟨x, rest, rfl⟩ : ∃ x rest, ns = x :: rest := by
    cases ns with
    | nil => have := N.len; simp at this
    | cons x rest => exact ⟨x, rest, rfl⟩
  have hnd := N.nd
  have hrl : rest.length = mN := by have := N.len; simp at this; exact this
  have hx := N.rg x List.mem_cons_self
  have NT : Names mN ((x :: rest).take mN) := ⟨by rw [List.length_take, N.len]; omega, hnd.sublist (List.take_sublist _ _), fun y hy => N.rg y (List.mem_of_mem_take hy)⟩
  have le1 : rN * (mN + 1) ≤ 14 * 21 := Nat.mul_le_mul (by omega) (by omega)
  have le2 : rN * mN ≤ 14 * 20 := Nat.mul_le_mul (by omega) (by omega)
  have F1 := fl_names NT (r := rN) (by omega)
  have F2 := fl_names N (r := rN) (by omega)
  obtain ⟨f2, f1⟩ := turn_few (many := m) NT.nd (by rw [NT.len]; exact hm) rN
  rw [hr] at f1
  have b4 := tu4 C p2 m r mN hm (x :: rest) N (by omega) r0 r1 (tI (List.replicate rN ((x :: rest).take mN)).flatten) (tI (List.replicate rN (x :: rest)).flatten)
  have f3 : mg m (List.replicate rN (x :: rest)).flatten = ([], r) := by
    have hne : x :: rest ≠ [] := by simp
    have hd := List.dropLast_concat_getLast hne
    have := mg_rounds (many := m) (ns := (x :: rest).dropLast) (x := (x :: rest).getLast hne) (by rw [hd]; exact hnd) (by rw [List.length_dropLast, N.len]; omega) rN 0
    rw [hd] at this
    rw [← hr]
    unfold mg
    rw [this, Int.zero_add]
  have b5 := tu5 C p2 (.lst ((x :: rest).map PyData.int)) m r h1 h2 none (some (.loc 2)) none _ _ _ F1 F2 f1 f2 f3
  have hml : (((List.replicate rN (x :: rest)).flatten.length : Nat) : Int) = r * (m + 1) := by
    rw [len_rep, N.len, ← hr, ← hm]; exact Int.natCast_mul _ _
  have b6 := tu6 C p2 (.lst ((x :: rest).map PyData.int)) m r h1 h2 (some (.loc 2)) (some (.p (tP (sortP (if 0 < r then ((x :: rest).take mN).map (fun n => (n, r)) else []))))) _ _ F1.len F2.len hml
  have lnm : ((x :: rest).length : Int) = m + 1 := by rw [N.len]; omega
  have b7 := tu7 C p2 m r h1 h2 (some (.p (tI (List.replicate rN ((x :: rest).take mN)).flatten))) (some (.p (tP (sortP (if 0 < r then ((x :: rest).take mN).map (fun n => (n, r)) else []))))) (List.replicate rN (x :: rest)).flatten x rest ⟨by rw [List.length_append, len_rep, N.len, List.length_singleton]; omega, fun f hf => by
      rcases List.mem_append.mp hf with hf | hf
      · exact F2.rg f hf
      · rw [List.mem_singleton.mp hf]; exact hx⟩ (hv_turn hnd lnm rN) (hv_turn1 h1 hnd List.mem_cons_self lnm rN)
  have b8 := tu8 C p2 m r r0 r1 (some (.p (tI (List.replicate rN ((x :: rest).take mN)).flatten))) (some (.p (tI (List.replicate rN (x :: rest)).flatten))) (some (.p (tP (sortP (if 0 < r then ((x :: rest).take mN).map (fun n => (n, r)) else []))))) x rest
  have b9 := tu9 C p2 m r h1 h2 r0 r1 (some (.p (tI (List.replicate rN ((x :: rest).take mN)).flatten))) (some (.p (tI (List.replicate rN (x :: rest)).flatten))) (some (.p (tP (sortP (if 0 < r then ((x :: rest).take mN).map (fun n => (n, r)) else []))))) x hx rest
  rw [hrt] at b8 b9
  obtain ⟨p3, os, hp3, ho, hos, b10⟩ := tu10 (C := C) hp2 (by omega) m r rN mN hr hm h1 h2 (by omega) (tI (List.replicate rN ((x :: rest).take mN)).flatten) (tI (List.replicate rN (x :: rest)).flatten) (tP (sortP (if 0 < r then ((x :: rest).take mN).map (fun n => (n, r)) else []))) (tI (List.replicate (rN + 1) x)) x rest hrl
  obtain ⟨p4, ms, hp4, hms, b11⟩ := tu11 (C := C) hp3 (by omega) m r rN hr (by omega) (tI (List.replicate rN ((x :: rest).take mN)).flatten) (tI (List.replicate rN (x :: rest)).flatten) (tP (sortP (if 0 < r then ((x :: rest).take mN).map (fun n => (n, r)) else []))) (List.replicate (rN + 1) x) os (x :: rest) (by rw [List.length_replicate]) ho
  have hxr : x ∉ rest := (List.nodup_cons.mp hnd).1
  have hcm : ms.count x = rN + 1 := by
    rw [hms.count_eq, List.count_append, List.count_replicate_self, List.count_eq_zero.mpr fun hx => hxr (hos x hx)]
  have hlm : ms.length = 2 * rN + 1 := by
    rw [hms.length_eq, List.length_append, List.length_replicate, ho]; omega
  have FM : Fl ms := ⟨by omega, fun f hf => by
    rcases List.mem_append.mp (hms.mem_iff.mp hf) with hf | hf
    · rw [List.eq_of_mem_replicate hf]; exact hx
    · exact N.rg f (List.mem_cons_of_mem _ (hos f hf))⟩
  obtain ⟨c, hc1, hc2⟩ := maj_mg hcm hlm
  have b12 := tu12 C p4 m r (some (.loc 2)) (some (.p (tI (List.replicate rN ((x :: rest).take mN)).flatten))) (some (.p (tI (List.replicate rN (x :: rest)).flatten))) (some (.p (tP (sortP (if 0 < r then ((x :: rest).take mN).map (fun n => (n, r)) else []))))) (some (.p (tI (List.replicate (rN + 1) x)))) (some (.p (tI os))) (.lst ((x :: rest).map PyData.int)) ms FM x c (mg 1 ms).2 hc1 rfl
  have b13 := tu13 C p4 m r (some (.p (tI (List.replicate rN ((x :: rest).take mN)).flatten))) (some (.p (tI (List.replicate rN (x :: rest)).flatten))) (some (.p (tP (sortP (if 0 < r then ((x :: rest).take mN).map (fun n => (n, r)) else []))))) (some (.p (tI (List.replicate (rN + 1) x)))) (some (.p (tI os))) rest ms FM x c (mg 1 ms).2 (maj_hv hcm hlm)
  have b14 := tu14 C p4 (.lst ((x :: rest).map PyData.int)) m r (some (.loc 2)) (some (.p (tI (List.replicate rN ((x :: rest).take mN)).flatten))) (some (.p (tI (List.replicate rN (x :: rest)).flatten))) (some (.p (tP (sortP (if 0 < r then ((x :: rest).take mN).map (fun n => (n, r)) else []))))) (some (.p (tI (List.replicate (rN + 1) x)))) (some (.p (tI os))) ms x c (mg 1 ms).2 hc2
  refine ⟨p4, m_ret (show seqS _ (seqS _ (seqS _ (seqS _ (seqS _ (seqS _ (seqS _ (seqS _ (seqS _ (seqS _ (seqS _ (seqS _ (seqS _ _)))))))))))) _ _ _ = _ from seq_go b1 (seq_go b2 (seq_go b3 (seq_go b4 (seq_go b5 (seq_go b6 (seq_go b7 (seq_go b8 (seq_go b9 (seq_go b10 (seq_go b11 (seq_go b12 (seq_go b13 b14))))))))))))) (by simp), hp4.mono (by omega)⟩
end G66
set_option maxHeartbeats 1000000
/-! P66ai: the run of blocks, its first part. -/
namespace G66
open PySem PySem.Spec PyProof.Rows L2 Pv
abbrev blE (m : Int) (x2 x3 x4 : Option T) (o5 o6 : Option D) (x7 x8 x9 x10 : Option T) (o11 o12 o13 o14 : Option D) (x15 : Option T) : Pv.Env := [some (.loc 1), some (.p (.int m)), x2, x3, x4, o5.map T.p, o6.map T.p, x7, x8, x9, x10, o11.map T.p, o12.map T.p, o13.map T.p, o14.map T.p, x15]
@[simp] theorem keepP (M : Nat) (o : Option D) : keepSlot M (o.map T.p) = o.map T.p := by cases o <;> rfl
@[simp] theorem keep0 (M : Nat) : keepSlot M none = none := rfl
@[simp] theorem keepD (M : Nat) (d : D) : keepSlot M (some (.p d)) = some (.p d) := rfl
@[simp] theorem keepL {M k : Nat} (h : k < M) : keepSlot M (some (.loc k)) = some (.loc k) := by simp [keepSlot, below, h]
@[simp] theorem keepM {M : Nat} (rows : List D) (d : D) : keepSlot M (some (.mix [.ft rows, .p d])) = some (.mix [.ft rows, .p d]) := rfl
/-- numbers drawn one by one for the items of a list -/
theorem p_rowL {k u : Int} {C p : O} (h : PotOk k p) (R : Sto) (hk : k ≤ 800000) (hu : 0 < u) (hu2 : u < 1000000) (ns : List Int) (hn : ns.length ≤ 1000) (P : Int → Prop) {fe : EF} {env : Pv.Env} {i j : Nat} {fA : EF} {S : Sto}
    (hi : fA env S = some (.loc (j + 2), C :: p :: R)) (hj : R[j]? = some (.lst (ns.map PyData.int)))
    (hf : ∀ (p p' : O) (R' : Sto) (d : Int) (z : D), m__law_take [.loc 1, .p (.int u)] (C :: p :: (R ++ R')) = some (.p (.int d), C :: p' :: (R ++ R')) → 0 ≤ d → d < u → ∃ y, P y ∧ fe ((env.set i none).set i (some (.p z))) (C :: p :: (R ++ R')) = some (.p (.int y), C :: p' :: (R ++ R'))) :
    ∃ (p' : O) (os : List Int), PotOk (k + ns.length) p' ∧ os.length = ns.length ∧ (∀ y ∈ os, P y) ∧ lcF (lstI fA) (nameG i) yesT fe [i] env S = some (.loc (R.length + 2), C :: p' :: (R ++ [.lst (os.map PyData.int)])) := by
  obtain ⟨out, S', e, ⟨p', os, rfl, rfl, hp, ho⟩, hlen⟩ := lc_relN (gf := nameG i) (ft := yesT) (fe := fe) (m := R.length + 2) (gd := [(j + 2, .lst (ns.map PyData.int))]) (env := env.set i none)
    (fun acc S => ∃ (p' : O) (os : List Int), S = C :: p' :: R ∧ acc = os.map PyData.int ∧ PotOk (k + os.length) p' ∧ ∀ f ∈ os, P f) (fun a S ⟨p', os, e, _⟩ => ⟨by rw [e]; rfl, fun q hq => by
      have : q = (j + 2, O.lst (ns.map PyData.int)) := by simpa using hq
      subst this; rw [e]; exact hj⟩) (ns.map PyData.int) [] (C :: p :: R) (by simp; omega) ⟨p, [], rfl, rfl, by simpa using h, by simp⟩ (fun z acc S hz hacc ⟨p1, os, e1, e2, h5, h6⟩ => by
      subst e1 e2
      rw [List.length_map] at hacc
      obtain ⟨p2, d, e3, h7, h8, h9⟩ := p_take (C := C) (R := R ++ [.lst (os.map PyData.int)]) (u := u) h5 (by omega) hu hu2
      obtain ⟨y, hy, e4⟩ := hf p1 p2 [.lst (os.map PyData.int)] d z e3 h8 h9
      refine ⟨_, .int y, C :: p2 :: R, g_name, e_yes, e4, p2, os ++ [y], rfl, by simp, ?_, ?_⟩
      · have : k + ((os ++ [y]).length : Nat) = k + (os.length : Nat) + 1 := by simp; omega
        rw [this]; exact h7
      · intro f hf
        rcases List.mem_append.mp hf with hf | hf
        · exact h6 f hf
        · rw [List.mem_singleton.mp hf]; exact hy)
  rw [List.length_map] at hlen
  simp only [List.length_nil, Nat.zero_add, List.length_map] at hlen
  refine ⟨p', os, by rw [← hlen]; exact hp, hlen, ho, ?_⟩
  have hj' : (C :: p :: R)[j + 2]? = some (.lst (ns.map PyData.int)) := hj
  rw [e_lc, i_lst, hi, Option.bind_some, i_lstK hj', Option.bind_some, e_lc1 (wipe1 env i ▸ e)]
  simp
theorem bl1 {k : Int} {p C : O} (h : PotOk k p) (hk : k ≤ 900000) (m : Int) (h1 : 1 ≤ m) (h2 : m ≤ 20) : ∃ (p' : O) (ns : List Int) (n : Nat), PotOk (k + n) p' ∧ Names n ns ∧ 1 ≤ n ∧ n ≤ 20 ∧ setS 2 (lcF (lstI (callF 3 m__law_some (consF (varF 0) (consF (lrg1F (conF (.int 1001))) (consF (argF min2T (consF (conF (.int 20)) (consF (binF addT (varF 1) (conF (.int 3))) nilF))) nilF))))) (nameG 11) yesT (argF intT (consF (varF 11) nilF)) [11]) 2 (blE m none none none none none none none none none none none none none none) [C, p]
    = some (.nx, blE m (some (.loc 2)) none none none none none none none none none none none none none, [C, p', .lst (ns.map PyData.int)]) := by
  obtain ⟨n, hn⟩ := Int.eq_ofNat_of_zero_le (show 0 ≤ (if m + 3 < 20 then m + 3 else 20) by split <;> omega)
  have hn1 : 1 ≤ n ∧ n ≤ 20 := by split at hn <;> omega
  obtain ⟨p', ns, N, hp, e⟩ := p_namesF (C := C) h [] n (by omega) (by omega) (fe := argF min2T (consF (conF (.int 20)) (consF (binF addT (varF 1) (conF (.int 3))) nilF))) (env := blE m none none none none none none none none none none none none none none) (i := 11) (by simp) rfl (by
    rw [← hn]; simp)
  refine ⟨p', ns, n, hp, N, hn1.1, hn1.2, ?_⟩
  rw [s_set, e]
  simp [gcV, gcT, gcOb, putSlot, putLoc]
theorem bl2 {k : Int} {p C : O} (h : PotOk k p) (hk : k ≤ 800000) (m : Int) (ns : List Int) (hn : ns.length ≤ 20) : ∃ (p' : O) (bs : List Int), PotOk (k + ns.length) p' ∧ bs.length = ns.length ∧ (∀ b ∈ bs, 1 ≤ b ∧ b ≤ 12) ∧ setS 3 (lcF (lstI (varF 2)) (nameG 11) yesT (binF addT (conF (.int 1)) (argF intT (consF (callF 2 m__law_take (consF (varF 0) (consF (conF (.int 12)) nilF))) nilF))) [11]) 2 (blE m (some (.loc 2)) none none none none none none none none none none none none none) [C, p, .lst (ns.map PyData.int)]
    = some (.nx, blE m (some (.loc 2)) (some (.loc 3)) none none none none none none none none none none none none, [C, p', .lst (ns.map PyData.int), .lst (bs.map PyData.int)]) := by
  obtain ⟨p', bs, hp, hl, hb, e⟩ := p_rowL (C := C) h [.lst (ns.map PyData.int)] hk (u := 12) (by decide) (by decide) ns (by omega) (fun b => 1 ≤ b ∧ b ≤ 12) (i := 11) (j := 0) (fA := varF 2) (fe := binF addT (conF (.int 1)) (argF intT (consF (callF 2 m__law_take (consF (varF 0) (consF (conF (.int 12)) nilF))) nilF)))
    (env := blE m (some (.loc 2)) none none none none none none none none none none none none none) (S := [C, p, .lst (ns.map PyData.int)]) (by simp) rfl (fun p p' R' d z e h0 hd => by
      refine ⟨1 + d, by omega, ?_⟩
      simp at e
      simp [e])
  refine ⟨p', bs, hp, hl, hb, ?_⟩
  rw [s_set, e]
  simp [gcV, gcT, gcOb, putSlot, putLoc]
theorem bl3 (m : Int) (S : Sto) : setS 4 (tupF nilF) 2 (blE m (some (.loc 2)) (some (.loc 3)) none none none none none none none none none none none none) S = some (.nx, blE m (some (.loc 2)) (some (.loc 3)) (some (.p (tI []))) none none none none none none none none none none none, S) := by
  simp [tupT, allP]
theorem zip_pairs : ∀ (ns bs : List Int), zipD (ns.map PyData.int) (bs.map PyData.int) = (ns.zip bs).map pairI
  | [], bs => by simp [zipD]
  | n :: ns, [] => by simp [zipD]
  | n :: ns, b :: bs => by
    have := zip_pairs ns bs
    unfold zipD at *
    simp [this, pairI]
theorem bl4 (C p : O) (m : Int) (L : CL) (ns bs : List Int) (hL : ns.zip bs = L) (hl : L.length ≤ 20) (hb : ∀ q ∈ L, 1 ≤ q.2 ∧ q.2 ≤ 12) : ∃ o5 o6 : Option D, forS (zipI (consF (varF 2) (consF (varF 3) nilF))) (tupG 2 (consG (nameG 5) (consG (nameG 6) nilG))) (setS 4 (binF addT (varF 4) (binF mulT (tupF (consF (varF 5) nilF)) (varF 6)))) 2 (blE m (some (.loc 2)) (some (.loc 3)) (some (.p (tI []))) none none none none none none none none none none none) [C, p, .lst (ns.map PyData.int), .lst (bs.map PyData.int)]
    = some (.nx, blE m (some (.loc 2)) (some (.loc 3)) (some (.p (tI (blk L)))) o5 o6 none none none none none none none none none, [C, p, .lst (ns.map PyData.int), .lst (bs.map PyData.int)]) := by
  have hsz : ∀ i, (blk (L.take i)).length ≤ 240 := fun i => by
    have hp : ∀ q ∈ L.take i, 1 ≤ q.2 ∧ q.2 ≤ 12 := fun q hq => hb q (List.mem_of_mem_take hq)
    have hll : (L.take i).length ≤ 20 := by rw [List.length_take]; omega
    generalize L.take i = M at hp hll
    have : (blk M).length ≤ 12 * M.length := by
      clear hll
      induction M with
      | nil => simp [blk]
      | cons q M ih =>
        have h1 := hp q List.mem_cons_self
        have ih := ih fun z hz => hp z (List.mem_cons_of_mem _ hz)
        have e : blk (q :: M) = List.replicate q.2.toNat q.1 ++ blk M := rfl
        rw [e, List.length_append, List.length_replicate, List.length_cons]
        omega
    omega
  obtain ⟨env', S', e1, rfl, o5, o6, rfl⟩ := loop_inv (gf := tupG 2 (consG (nameG 5) (consG (nameG 6) nilG))) (sb := setS 4 (binF addT (varF 4) (binF mulT (tupF (consF (varF 5) nilF)) (varF 6)))) (n := gdTop 2 [(2, .lst (ns.map PyData.int)), (3, .lst (bs.map PyData.int))]) (m := 4) (gd := [(2, .lst (ns.map PyData.int)), (3, .lst (bs.map PyData.int))])
    (fun i env S => S = [C, p, .lst (ns.map PyData.int), .lst (bs.map PyData.int)] ∧ ∃ o5 o6 : Option D, env = blE m (some (.loc 2)) (some (.loc 3)) (some (.p (tI (blk (L.take i))))) o5 o6 none none none none none none none none none)
    (fun i env S ⟨e, _⟩ => by subst e; intro q hq; simp at hq; rcases hq with rfl | rfl <;> rfl) (L.map pairI) 0 (blE m (some (.loc 2)) (some (.loc 3)) (some (.p (tI []))) none none none none none none none none none none none) [C, p, .lst (ns.map PyData.int), .lst (bs.map PyData.int)] ⟨rfl, none, none, rfl⟩ (fun i x env S hx ⟨e1, o5, o6, e2⟩ => by
      subst e1 e2
      rw [List.getElem?_map] at hx
      obtain ⟨q, hq, rfl⟩ := Option.map_eq_some_iff.mp hx
      have hq' := hb q (List.mem_of_getElem? hq)
      have q1 : ∀ S, mulT (.p (.tuple [.int q.1])) (.p (.int q.2)) S = some (.p (.tuple (repD q.2 [.int q.1])), S) := fun S => e_mulP ⟨by omega, by omega, by simp⟩
      rw [rep_one] at q1
      have et : blk (L.take (0 + i + 1)) = blk (L.take (0 + i)) ++ List.replicate q.2.toNat q.1 := by
        rw [List.take_succ, blk_app, Nat.zero_add, hq]
        simp [blk]
      have a : ∀ S, addT (.p (.tuple ((blk (L.take (0 + i))).map PyData.int))) (.p (.tuple ((List.replicate q.2.toNat q.1).map PyData.int))) S = some (.p (.tuple ((blk (L.take (0 + i + 1))).map PyData.int)), S) := fun S => by
        rw [et, List.map_append]
        have := hsz (0 + i)
        exact e_addP (by rw [sizeLine_eq, List.length_map, List.length_map, List.length_replicate]; omega) (.inr (fun z => by rw [List.map_eq_nil_iff, List.replicate_eq_nil_iff] at z; omega))
      refine ⟨blE m (some (.loc 2)) (some (.loc 3)) (some (.p (tI (blk (L.take (0 + i)))))) (some (.int q.1)) (some (.int q.2)) none none none none none none none none none, [C, p, .lst (ns.map PyData.int), .lst (bs.map PyData.int)], blE m (some (.loc 2)) (some (.loc 3)) (some (.p (tI (blk (L.take (0 + i + 1)))))) (some (.int q.1)) (some (.int q.2)) none none none none none none none none none, [C, p, .lst (ns.map PyData.int), .lst (bs.map PyData.int)], ?_, ?_, rfl, some (.int q.1), some (.int q.2), ?_⟩
      · simp [pairI]
      · simp only [tI]
        simp only [Nat.zero_add] at a
        simp [-List.map_replicate, tupT, allP, q1, a]
      · simp [forget])
  refine ⟨o5, o6, ?_⟩
  have hi : zipI (consF (varF 2) (consF (varF 3) nilF)) (blE m (some (.loc 2)) (some (.loc 3)) (some (.p (tI []))) none none none none none none none none none none none) [C, p, .lst (ns.map PyData.int), .lst (bs.map PyData.int)] = some (L.map pairI, [(2, .lst (ns.map PyData.int)), (3, .lst (bs.map PyData.int))], [C, p, .lst (ns.map PyData.int), .lst (bs.map PyData.int)]) := by
    rw [← hL, ← zip_pairs]; simp
  rw [s_for_run hi rfl e1]
  have ht : L.take (0 + (L.map pairI).length) = L := List.take_of_length_le (by simp)
  rw [ht]
  simp [forget]
end G66
set_option maxHeartbeats 1000000
/-! P66aj: comprehensions over known rows; the run of blocks goes on. -/
namespace G66
open PySem PySem.Spec PyProof.Rows L2 Pv
theorem unsnoc_tl {m : Nat} {S T : Sto} {xs : List D} (h : S.length = m) : unsnoc m (S ++ .lst xs :: T) = some (S, xs) := by
  subst h
  simp [unsnoc]
theorem set_id {α : Type} {S : List α} {j : Nat} {x : α} (h : S[j]? = some x) : S.set j x = S := by
  refine List.ext_getElem? fun i => ?_
  rw [List.getElem?_set]
  by_cases e : j = i
  · subst e
    have := (List.getElem?_eq_some_iff.mp h).1
    rw [if_pos rfl, if_pos this, h]
  · rw [if_neg e]
section
variable {gf : GF} {ft : TF} {fe : EF} {env : Pv.Env} {S S' : Sto} {m : Nat} {gd : Gd} {itf : IF} {vs : List Nat}
theorem lc_typ {α : Type} (emb : α → D) (p : α → Bool) (f : α → D) (hm : S.length = m) (hgd : GdOk gd S) : ∀ (xs : List α) (acc : List D), acc.length + xs.length ≤ 100000 →
    (∀ a ∈ xs, ∀ acc, ∃ env1 T1 T2, gf (.p (emb a)) env (S ++ [.lst acc]) = some (env1, S ++ [.lst acc]) ∧ ft env1 (S ++ [.lst acc]) = some (p a, S ++ .lst acc :: T1) ∧ (p a = true → fe env1 (S ++ .lst acc :: T1) = some (.p (f a), S ++ .lst acc :: T2))) →
    lcGo gf ft fe env m gd (xs.map emb) acc S = some (acc ++ (xs.filter p).map f, S)
  | [], acc, _, _ => by simp only [List.map_nil, lcGo]; rw [if_pos hgd]; simp
  | x :: xs, acc, hl, h => by
    obtain ⟨env1, T1, T2, e1, e2, e3⟩ := h x List.mem_cons_self acc
    have ih := fun acc' hl' => lc_typ emb p f hm hgd xs acc' hl' fun y hy => h y (List.mem_cons_of_mem _ hy)
    simp only [List.length_cons] at hl
    have hsz : acc.length < sizeLine := by rw [sizeLine_eq]; omega
    simp only [List.map_cons, lcGo]
    rw [if_pos hgd, e1, Option.bind_some, e2, Option.bind_some]
    cases hp : p x with
    | true =>
      simp only [if_true]
      rw [e3 hp, Option.bind_some]
      simp only
      rw [unsnoc_tl hm, Option.bind_some]
      simp only
      rw [if_pos hsz, ih _ (by rw [List.length_append, List.length_singleton]; omega), List.filter_cons, hp, if_pos rfl, List.map_cons, List.append_assoc]
      rfl
    | false =>
      simp only [Bool.false_eq_true, if_false]
      rw [unsnoc_tl hm, Option.bind_some]
      simp only
      rw [ih _ (by omega), List.filter_cons, hp, if_neg Bool.false_ne_true]
theorem lcF_typ {α : Type} (emb : α → D) (p : α → Bool) (f : α → D) (xs : List α) (hi : itf env S = some (xs.map emb, gd, S')) (hgd : GdOk gd S') (hl : xs.length ≤ 100000)
    (h : ∀ a ∈ xs, ∀ acc, ∃ env1 T1 T2, gf (.p (emb a)) (wipeE env vs) (S' ++ [.lst acc]) = some (env1, S' ++ [.lst acc]) ∧ ft env1 (S' ++ [.lst acc]) = some (p a, S' ++ .lst acc :: T1) ∧ (p a = true → fe env1 (S' ++ .lst acc :: T1) = some (.p (f a), S' ++ .lst acc :: T2))) :
    lcF itf gf ft fe vs env S = some (.loc S'.length, S' ++ [.lst ((xs.filter p).map f)]) := by
  rw [e_lc, hi, Option.bind_some, e_lc1 (lc_typ emb p f rfl hgd xs [] (by simpa using hl) h), List.nil_append]
/-- .. over a dict's keys -/
theorem lc_dict {M : CL} {i j q : Nat} (p : Int × Int → Bool) (f : Int × Int → D) (hv : env[i]? = some (some (.loc j))) (hj : S[j]? = some (.dic (enc M))) (hl : M.length ≤ 100000)
    (h : ∀ a ∈ M, ∀ acc, ∃ T1 T2, ft ((env.set q none).set q (some (.p (.int a.1)))) (S.set j (.lck (enc M)) ++ [.lst acc]) = some (p a, S.set j (.lck (enc M)) ++ .lst acc :: T1) ∧ (p a = true → fe ((env.set q none).set q (some (.p (.int a.1)))) (S.set j (.lck (enc M)) ++ .lst acc :: T1) = some (.p (f a), S.set j (.lck (enc M)) ++ .lst acc :: T2))) :
    lockF i (lcF (keysI (varF i)) (nameG q) ft fe [q]) env S = some (.loc S.length, S ++ [.lst ((M.filter p).map f)]) := by
  have hjl : j < S.length := (List.getElem?_eq_some_iff.mp hj).1
  have h1 : (S.set j (.lck (enc M)))[j]? = some (.lck (enc M)) := by rw [List.getElem?_set_self hjl]
  have hi : keysI (varF i) env (S.set j (.lck (enc M))) = some (M.map fun a => PyData.int a.1, [(j, .lck (enc M))], S.set j (.lck (enc M))) := by
    rw [i_keys, e_var, hv, e_varK, dn_loc, Option.bind_some, i_keysK h1]
    congr 2
    unfold enc
    rw [List.map_map]; rfl
  have key := lcF_typ (itf := keysI (varF i)) (gf := nameG q) (ft := ft) (fe := fe) (env := env) (vs := [q]) (fun a : Int × Int => PyData.int a.1) p f M hi (fun z hz => by
    have : z = (j, O.lck (enc M)) := by simpa using hz
    subst this; exact h1) hl fun a ha acc => by
      obtain ⟨T1, T2, e1, e2⟩ := h a ha acc
      exact ⟨_, T1, T2, g_name, e1, e2⟩
  have h4 : (S.set j (O.lck (enc M)) ++ [.lst ((M.filter p).map f)])[j]? = some (.lck (enc M)) := by
    rw [List.getElem?_append_left (by rw [List.length_set]; exact hjl)]; exact h1
  rw [e_lock hv hj key h4]
  rw [List.length_set]
  congr 2
  rw [List.set_append_left _ _ (by rw [List.length_set]; exact hjl), List.set_set]
  congr 1
  exact set_id hj
end
end G66
set_option maxHeartbeats 1000000
/-! P66ak: the run of blocks, its looks. -/
namespace G66
open PySem PySem.Spec PyProof.Rows L2 Pv
section
variable (C p ln lb : O) (m : Int) (h1 : 1 ≤ m) (h2 : m ≤ 20) (fs : List Int) (F : Fl fs) (o5 o6 : Option D)
include h1 h2 F
theorem bl5 : setS 7 (callF 2 m_counters (consF (varF 1) (consF (varF 4) nilF))) 2 (blE m (some (.loc 2)) (some (.loc 3)) (some (.p (tI fs))) o5 o6 none none none none none none none none none) [C, p, ln, lb]
    = some (.nx, blE m (some (.loc 2)) (some (.loc 3)) (some (.p (tI fs))) o5 o6 (some (.mix [.ft ((sortP (mg m fs).1).map pairI), .p (.int (mg m fs).2)])) none none none none none none none none, [C, p, ln, lb]) := by
  have e := r_counters [C, p, ln, lb] m fs h1 h2 F.len F.rg
  simp [e, gcV, gcTs, gcT, gcOb]
theorem bl6 : ifS (orT (asT (binF (eqT true) (varF 7) (callF 2 m__law_go (consF (varF 1) (consF (varF 4) nilF))))) (asT (binF gtI (binF ixT (varF 7) (conF (.int 1))) (callF 2 m_most_lost (consF (varF 1) (consF (argF lenT (consF (varF 4) nilF)) nilF)))))) (retS (conF (.bool false))) nextS 2 (blE m (some (.loc 2)) (some (.loc 3)) (some (.p (tI fs))) o5 o6 (some (.mix [.ft ((sortP (mg m fs).1).map pairI), .p (.int (mg m fs).2)])) none none none none none none none none) [C, p, ln, lb]
    = some (.nx, blE m (some (.loc 2)) (some (.loc 3)) (some (.p (tI fs))) o5 o6 (some (.mix [.ft ((sortP (mg m fs).1).map pairI), .p (.int (mg m fs).2)])) none none none none none none none none, [C, p, ln, lb]) := by
  have e1 := r_go [C, p, ln, lb] m fs (by have := F.len; omega)
  have fl := F.len
  have e2 := r_most [C, p, ln, lb] m fs.length h1 h2 (by omega) (by omega)
  have q1 : ∀ S, eqT true (.p (.tuple [.tuple ((sortP (mg m fs).1).map pairI), .int (mg m fs).2])) (.p (.tuple [.tuple ((sortP (mg m fs).1).map pairI), .int (mg m fs).2])) S = some (.p (.bool false), S) := fun S => eq_same (b := true) rfl rfl (dk_pair (dk_rows (k := 57) _) (dk_int _))
  have M := mg_ok (show 0 ≤ m by omega) fs
  have hs : 0 ≤ sumC (mg m fs).1 := sum_nonneg fun x hx => by
    obtain ⟨q, hq, rfl⟩ := List.mem_map.mp hx
    have := M.pos q hq; omega
  have hle : (mg m fs).2 ≤ (fs.length : Int) / (m + 1) := (Int.le_ediv_iff_mul_le (by omega)).mpr (by have := M.sum; omega)
  refine if_nx (S' := [C, p, ln, lb]) ?_ rfl
  have hn : ¬ ((fs.length : Int) / (m + 1) < (mg m fs).2) := by omega
  simp [dn_mix, e1, e2, q1, hn]
theorem bl7 : parS 8 9 (consF (argF sumT (consF (lcF (tupI (binF ixT (varF 7) (conF (.int 0)))) (tupG 2 (consG (nameG 11) (consG (nameG 12) nilG))) yesT (varF 12) [11, 12]) nilF)) (consF (binF mulI (binF ixT (varF 7) (conF (.int 1))) (binF addT (varF 1) (conF (.int 1)))) nilF)) 2 (blE m (some (.loc 2)) (some (.loc 3)) (some (.p (tI fs))) o5 o6 (some (.mix [.ft ((sortP (mg m fs).1).map pairI), .p (.int (mg m fs).2)])) none none none none none none none none) [C, p, ln, lb]
    = some (.nx, blE m (some (.loc 2)) (some (.loc 3)) (some (.p (tI fs))) o5 o6 (some (.mix [.ft ((sortP (mg m fs).1).map pairI), .p (.int (mg m fs).2)])) (some (.p (.int (sumC (mg m fs).1)))) (some (.p (.int ((mg m fs).2 * (m + 1))))) none none none none none none, [C, p, ln, lb]) := by
  have hl : (sortP (mg m fs).1).length ≤ 20 := by
    have M := mg_ok (show 0 ≤ m by omega) fs
    have := M.len
    rw [(sortP_perm _).length_eq]; omega
  have q := lcF_typ (itf := tupI (binF ixT (varF 7) (conF (.int 0)))) (gf := tupG 2 (consG (nameG 11) (consG (nameG 12) nilG))) (ft := yesT) (fe := varF 12) (vs := [11, 12]) (env := blE m (some (.loc 2)) (some (.loc 3)) (some (.p (tI fs))) o5 o6 (some (.mix [.ft ((sortP (mg m fs).1).map pairI), .p (.int (mg m fs).2)])) none none none none none none none none) (S := [C, p, ln, lb]) (S' := [C, p, ln, lb]) (gd := []) pairI (fun _ => true) (fun a => .int a.2) (sortP (mg m fs).1) (by simp [dn_mix]) gd_nil (by omega) (fun a ha acc => by
    refine ⟨blE m (some (.loc 2)) (some (.loc 3)) (some (.p (tI fs))) o5 o6 (some (.mix [.ft ((sortP (mg m fs).1).map pairI), .p (.int (mg m fs).2)])) none none none (some (.int a.1)) (some (.int a.2)) none none none, [], [], ?_, ?_, fun _ => ?_⟩
    · simp [pairI, wipeE]
    · simp
    · simp)
  have ef : ((sortP (mg m fs).1).filter fun _ => true) = sortP (mg m fs).1 := List.filter_eq_self.mpr fun _ _ => rfl
  have em : (sortP (mg m fs).1).map (fun a => PyData.int a.2) = ((sortP (mg m fs).1).map (·.2)).map PyData.int := by rw [List.map_map]; rfl
  rw [ef, em] at q
  have es : ((sortP (mg m fs).1).map (·.2)).sum = sumC (mg m fs).1 := sum_perm ((sortP_perm _).map _)
  have q2 := e_sumL (S := [C, p, ln, lb, .lst (((sortP (mg m fs).1).map (·.2)).map PyData.int)]) (i := 4) (ns := (sortP (mg m fs).1).map (·.2)) rfl
  rw [es] at q2
  have cm : CMul (mg m fs).2 (m + 1) := cmul_r (by omega) (by omega)
  simp only [List.cons_append, List.nil_append, List.length_cons, List.length_nil] at q
  rw [s_par, e_cons, e_arg, e_cons, q]
  simp [-List.map_map, dn_mix, q2, cm]
theorem bl8 : ifS (asT (binF (eqT true) (binF addT (varF 8) (varF 9)) (argF lenT (consF (varF 4) nilF)))) (retS (conF (.bool false))) nextS 2 (blE m (some (.loc 2)) (some (.loc 3)) (some (.p (tI fs))) o5 o6 (some (.mix [.ft ((sortP (mg m fs).1).map pairI), .p (.int (mg m fs).2)])) (some (.p (.int (sumC (mg m fs).1)))) (some (.p (.int ((mg m fs).2 * (m + 1))))) none none none none none none) [C, p, ln, lb]
    = some (.nx, blE m (some (.loc 2)) (some (.loc 3)) (some (.p (tI fs))) o5 o6 (some (.mix [.ft ((sortP (mg m fs).1).map pairI), .p (.int (mg m fs).2)])) (some (.p (.int (sumC (mg m fs).1)))) (some (.p (.int ((mg m fs).2 * (m + 1))))) none none none none none none, [C, p, ln, lb]) := by
  have M := mg_ok (show 0 ≤ m by omega) fs
  have := M.sum
  refine if_nx (S' := [C, p, ln, lb]) ?_ rfl
  simp [this]
end
theorem pair_enc (L : CL) (h : nd L) : ∃ kvs, pairsOf (L.map pairI) = some kvs ∧ mergeD [] kvs = enc L := ⟨enc L, pairsOf_enc L, merge_enc h⟩
theorem keys_ints : ∀ ns : List Int, ∃ ks, keysD (ns.map PyData.int) = some ks
  | [] => ⟨[], rfl⟩
  | n :: ns => by
    obtain ⟨ks, e⟩ := keys_ints ns
    exact ⟨.inl n :: ks, by simp [keysD, e, key_int]⟩
theorem bl9 (C p : O) (m : Int) (ns bs : List Int) (L : CL) (hL : ns.zip bs = L) (hn : nd L) (x4 x7 : T) (o5 o6 : Option D) (a b : D) : setS 10 (argF dictT (consF (lzipF (consF (varF 2) (consF (varF 3) nilF))) nilF)) 2 (blE m (some (.loc 2)) (some (.loc 3)) (some x4) o5 o6 (some x7) (some (.p a)) (some (.p b)) none none none none none none) [C, p, .lst (ns.map PyData.int), .lst (bs.map PyData.int)]
    = some (.nx, blE m (some (.loc 2)) (some (.loc 3)) (some x4) o5 o6 (some x7) (some (.p a)) (some (.p b)) (some (.loc 4)) none none none none none, [C, p, .lst (ns.map PyData.int), .lst (bs.map PyData.int), .dic (enc L)]) := by
  obtain ⟨ks, hk⟩ := keys_ints ns
  have z := zip_pairs ns bs
  rw [hL] at z
  have q : lzipF (consF (varF 2) (consF (varF 3) nilF)) (blE m (some (.loc 2)) (some (.loc 3)) (some x4) o5 o6 (some x7) (some (.p a)) (some (.p b)) none none none none none none) [C, p, .lst (ns.map PyData.int), .lst (bs.map PyData.int)] = some (.loc 4, [C, p, .lst (ns.map PyData.int), .lst (bs.map PyData.int), .lst (L.map pairI)]) := by
    unfold lzipF
    simp [lstOf, hk, z]
  have q2 := e_dict (S := [C, p, .lst (ns.map PyData.int), .lst (bs.map PyData.int), .lst (L.map pairI)]) (i := 4) rfl (pairsOf_enc L)
  rw [merge_enc hn] at q2
  rw [s_set, e_arg, e_cons, q]
  simp [q2, gcV, gcT, gcOb, putSlot, putLoc]
end G66
set_option maxHeartbeats 1000000
/-! P66al: the run of blocks, the loop over flows. -/
namespace G66
open PySem PySem.Spec PyProof.Rows L2 Pv
theorem dgetx_run {fd fi : EF} {env : Pv.Env} {S S1 : Sto} {i : Nat} {M : CL} {f : Int} (hd : fd env S = some (.loc i, S1)) (hj : dictOf S1 (.loc i) = some (enc M)) (hi : fi env S1 = some (.p (.int f), S1)) : dgetxF fd fi (conF (.int 0)) env S = some (.p (.int (gt M f)), S1) := by
  have h1 := e_dgetx0 (fi := fi) (fx := conF (.int 0)) (env := env) hj
  have h2 := e_dgetx2 (v := .p (.int 0)) hj (key_int f)
  rw [e_dgetx, hd, Option.bind_some, h1, hi, Option.bind_some, e_dgetx1, e_con, Option.bind_some, h2, val_enc]
  unfold gt
  cases lk M f <;> rfl
theorem dget_run {fd fi : EF} {env : Pv.Env} {S S1 : Sto} {i : Nat} {M : CL} {f : Int} (hd : fd env S = some (.loc i, S1)) (hj : dictOf S1 (.loc i) = some (enc M)) (hi : fi env S1 = some (.p (.int f), S1)) (hf : has M f = true) : dgetF fd fi env S = some (.p (.int (gt M f)), S1) := by
  have h2 := e_dget1 (d := .int f) hj (key_int f)
  rw [e_dget, hd, Option.bind_some, e_dget0, hi, Option.bind_some, h2, val_enc]
  have := has_lk M f
  rw [hf] at this
  unfold gt
  cases e : lk M f with
  | none => rw [e] at this; cases this
  | some c => rfl
theorem din_run {fd fi : EF} {env : Pv.Env} {S S1 S2 : Sto} {i : Nat} {M : CL} {f : Int} {b : Bool} (hi : fi env S = some (.p (.int f), S1)) (hd : fd env S1 = some (.loc i, S2)) (hj : dictOf S2 (.loc i) = some (enc M)) : dinF b fi fd env S = some (.p (.bool (if b then !has M f else has M f)), S2) := by
  rw [e_din, hi, Option.bind_some, e_din0, hd, Option.bind_some, e_din1 hj (key_int f), val_enc]
  have := has_lk M f
  rw [← this]
  cases lk M f <;> rfl
/-- dict(list(rows)) -/
theorem dict_rows {fe : EF} {env : Pv.Env} {S : Sto} {W : CL} (hn : nd W) (h : fe env S = some (.p (.tuple (W.map pairI)), S)) : argF dictT (consF (argF listT (consF fe nilF)) nilF) env S = some (.loc (S.length + 1), S ++ [.lst (W.map pairI), .dic (enc W)]) := by
  have q := e_dict (S := S ++ [.lst (W.map pairI)]) (i := S.length) (by simp) (pairsOf_enc W)
  rw [merge_enc hn] at q
  rw [e_arg, e_cons, e_arg, e_cons, h]
  simp [q]
/-- the slots in the loop -/
abbrev bkE (m : Int) (fs : List Int) (W : CL) (less : Int) (o5 o6 : Option D) (a b : D) (o11 o12 o13 o14 : Option D) : Pv.Env := blE m (some (.loc 2)) (some (.loc 3)) (some (.p (tI fs))) o5 o6 (some (.mix [.ft (W.map pairI), .p (.int less)])) (some (.p a)) (some (.p b)) (some (.loc 4)) o11 o12 o13 o14 none
theorem word_cases (m : Int) (fs : List Int) (f : Int) : (word m fs f = .str "sure" ∧ (fs.length : Int) < gt (mg m fs).1 f * (m + 1)) ∨ (¬ (fs.length : Int) < gt (mg m fs).1 f * (m + 1) ∧ word m fs f = .str "light" ∧ (gt (mg m fs).1 f + (mg m fs).2) * (m + 1) ≤ fs.length) ∨ (¬ (fs.length : Int) < gt (mg m fs).1 f * (m + 1) ∧ word m fs f = .none ∧ ¬ (gt (mg m fs).1 f + (mg m fs).2) * (m + 1) ≤ fs.length) := by
  unfold word
  by_cases h1 : (fs.length : Int) < gt (mg m fs).1 f * (m + 1)
  · rw [if_pos h1]; exact .inl ⟨rfl, h1⟩
  · rw [if_neg h1]
    by_cases h2 : (gt (mg m fs).1 f + (mg m fs).2) * (m + 1) ≤ fs.length
    · rw [if_pos h2]; exact .inr (.inl ⟨h1, rfl, h2⟩)
    · rw [if_neg h2]; exact .inr (.inr ⟨h1, rfl, h2⟩)
section
variable (C p ln lb lw : O) (m : Int) (fs : List Int) (W : CL) (less : Int) (o5 : Option D) (a b : D) (f z : Int)
theorem bk1 (hn : nd W) (n : Nat) (o12 o13 o14 : Option D) : setS 12 (dgetxF (argF dictT (consF (argF listT (consF (binF ixT (varF 7) (conF (.int 0))) nilF)) nilF)) (varF 11) (conF (.int 0))) n (bkE m fs W less o5 (some (.int z)) a b (some (.int f)) o12 o13 o14) [C, p, ln, lb, lw]
    = some (.nx, bkE m fs W less o5 (some (.int z)) a b (some (.int f)) (some (.int (gt W f))) o13 o14, [C, p, ln, lb, lw]) := by
  have q := dict_rows (fe := binF ixT (varF 7) (conF (.int 0))) (env := bkE m fs W less o5 (some (.int z)) a b (some (.int f)) o12 o13 o14) (S := [C, p, ln, lb, lw]) hn (by simp [dn_mix])
  have q2 := dgetx_run (fi := varF 11) q (M := W) (f := f) (dictOf_dic (by simp)) (by simp)
  rw [s_set, q2]
  simp
theorem bk2 (n : Nat) (g : Int) (o13 o14 : Option D) (hg : z - less ≤ g ∧ g ≤ z) : ifS (notT (asT (chainF leI leI (binF subI (varF 6) (binF ixT (varF 7) (conF (.int 1)))) (varF 12) (varF 6)))) (retS (conF (.bool false))) nextS n (bkE m fs W less o5 (some (.int z)) a b (some (.int f)) (some (.int g)) o13 o14) [C, p, ln, lb, lw]
    = some (.nx, bkE m fs W less o5 (some (.int z)) a b (some (.int f)) (some (.int g)) o13 o14, [C, p, ln, lb, lw]) := by
  refine if_nx (S' := [C, p, ln, lb, lw]) ?_ rfl
  simp [dn_mix, hg.1, hg.2]
variable (h1 : 1 ≤ m) (h2 : m ≤ 20) (F : Fl fs) (hf : 0 ≤ f ∧ f ≤ 1000)
include h1 h2 F hf
theorem bk3 (n : Nat) (g : Int) (o13 o14 : Option D) : setS 13 (callF 3 m_sure_by (consF (varF 1) (consF (varF 4) (consF (varF 11) nilF)))) n (bkE m fs W less o5 (some (.int z)) a b (some (.int f)) (some (.int g)) o13 o14) [C, p, ln, lb, lw]
    = some (.nx, bkE m fs W less o5 (some (.int z)) a b (some (.int f)) (some (.int g)) (some (word m fs f)) o14, [C, p, ln, lb, lw]) := by
  have e := r_sure [C, p, ln, lb, lw] m f fs h1 h2 F.len F.rg hf.1 hf.2
  simp [e]
omit F hf in
theorem bk45 (n : Nat) (g : Int) (o14 : Option D) (w : D) (hw : w = if (fs.length : Int) < g * (m + 1) then .str "sure" else if (g + less) * (m + 1) ≤ fs.length then .str "light" else .none) {r : Option (Out × Pv.Env × Sto)} {s3 : SF} (hr : s3 n (bkE m fs W less o5 (some (.int z)) a b (some (.int f)) (some (.int g)) (some w) (some w)) [C, p, ln, lb, lw] = r) :
    seqS (setS 14 (ifF (asT (binF leI (binF mulI (binF addT (varF 12) (binF ixT (varF 7) (conF (.int 1)))) (binF addT (varF 1) (conF (.int 1)))) (argF lenT (consF (varF 4) nilF)))) (conF (.str "light")) (conF .none))) (seqS (setS 14 (ifF (asT (binF gtI (binF mulI (varF 12) (binF addT (varF 1) (conF (.int 1)))) (argF lenT (consF (varF 4) nilF)))) (conF (.str "sure")) (varF 14))) s3) n (bkE m fs W less o5 (some (.int z)) a b (some (.int f)) (some (.int g)) (some w) o14) [C, p, ln, lb, lw] = r := by
  have cm : ∀ c, CMul c (m + 1) := fun c => cmul_r (by omega) (by omega)
  have s1 : setS 14 (ifF (asT (binF leI (binF mulI (binF addT (varF 12) (binF ixT (varF 7) (conF (.int 1)))) (binF addT (varF 1) (conF (.int 1)))) (argF lenT (consF (varF 4) nilF)))) (conF (.str "light")) (conF .none)) n (bkE m fs W less o5 (some (.int z)) a b (some (.int f)) (some (.int g)) (some w) o14) [C, p, ln, lb, lw] = some (.nx, bkE m fs W less o5 (some (.int z)) a b (some (.int f)) (some (.int g)) (some w) (some (if (g + less) * (m + 1) ≤ fs.length then .str "light" else .none)), [C, p, ln, lb, lw]) := by
    by_cases h : (g + less) * (m + 1) ≤ fs.length
    · simp [dn_mix, cm, h]
    · simp [dn_mix, cm, h]
  have s2 : setS 14 (ifF (asT (binF gtI (binF mulI (varF 12) (binF addT (varF 1) (conF (.int 1)))) (argF lenT (consF (varF 4) nilF)))) (conF (.str "sure")) (varF 14)) n (bkE m fs W less o5 (some (.int z)) a b (some (.int f)) (some (.int g)) (some w) (some (if (g + less) * (m + 1) ≤ fs.length then .str "light" else .none))) [C, p, ln, lb, lw] = some (.nx, bkE m fs W less o5 (some (.int z)) a b (some (.int f)) (some (.int g)) (some w) (some w), [C, p, ln, lb, lw]) := by
    by_cases h : (fs.length : Int) < g * (m + 1)
    · rw [if_pos h] at hw
      simp [cm, h, hw]
    · rw [if_neg h] at hw
      have h' : g * (m + 1) ≤ fs.length := by omega
      rw [hw]
      generalize (if (g + less) * (m + 1) ≤ fs.length then PyData.str "light" else .none) = q
      simp [cm, h']
  exact seq_go s1 (seq_go s2 hr)
end
end G66
set_option maxHeartbeats 1000000
/-! P66am: the run of blocks, the looks at the words. -/
namespace G66
open PySem PySem.Spec PyProof.Rows L2 Pv
theorem rp_str {x : Str} (h : (reprText x).length ≤ 1000) (S : Sto) : reprT [.p (.str x)] S = some (.p (.str (reprText x)), S) := by
  show (if (reprText x).length ≤ sizeLine then _ else _) = _
  rw [if_pos (Nat.le_trans h (by rw [sizeLine_eq]; decide))]
theorem rp_none (S : Sto) : reprT [.p .none] S = some (.p (.str "None"), S) := rfl
theorem eq_str {x y : Str} (S : Sto) (hx : PyData.strOk x = true) (hy : PyData.strOk y = true) (b : Bool) (c : Bool) (h : PyData.eqv (.str x) (.str y) = c) : eqT b (.p (.str x)) (.p (.str y)) S = some (.p (.bool (if b then !c else c)), S) := by
  rw [e_eq rfl rfl (deep_of (dk_str hx)) (deep_of (dk_str hy)), h]
theorem eq_ns {y : Str} (S : Sto) (hy : PyData.strOk y = true) (b : Bool) : eqT b (.p .none) (.p (.str y)) S = some (.p (.bool b), S) := by
  rw [e_eq rfl rfl (deep_of dk_none) (deep_of (dk_str hy))]
  have : PyData.eqv .none (.str y) = false := by simp [PyData.eqv]
  rw [this]
  cases b <;> rfl
theorem ok_sure : PyData.strOk "sure" = true := by decide +kernel
theorem ok_light : PyData.strOk "light" = true := by decide +kernel
theorem ok_rsure : PyData.strOk (reprText "sure") = true := by decide +kernel
theorem ok_rlight : PyData.strOk (reprText "light") = true := by decide +kernel
theorem ok_none : PyData.strOk "None" = true := by decide +kernel
theorem ln_rsure : (reprText "sure").length ≤ 1000 := by decide +kernel
theorem ln_rlight : (reprText "light").length ≤ 1000 := by decide +kernel
theorem ss (S : Sto) (b : Bool) : eqT b (.p (.str "sure")) (.p (.str "sure")) S = some (.p (.bool (!b)), S) := eq_same rfl rfl (dk_str ok_sure)
theorem ll (S : Sto) (b : Bool) : eqT b (.p (.str "light")) (.p (.str "light")) S = some (.p (.bool (!b)), S) := eq_same rfl rfl (dk_str ok_light)
theorem ls (S : Sto) (b : Bool) : eqT b (.p (.str "light")) (.p (.str "sure")) S = some (.p (.bool b), S) := by
  rw [eq_str S ok_light ok_sure b false (by simp [PyData.eqv]; decide +kernel)]
  cases b <;> rfl
theorem sl (S : Sto) (b : Bool) : eqT b (.p (.str "sure")) (.p (.str "light")) S = some (.p (.bool b), S) := by
  rw [eq_str S ok_sure ok_light b false (by simp [PyData.eqv]; decide +kernel)]
  cases b <;> rfl
theorem rss (S : Sto) : eqT true (.p (.str (reprText "sure"))) (.p (.str (reprText "sure"))) S = some (.p (.bool false), S) := eq_same (b := true) rfl rfl (dk_str ok_rsure)
theorem rll (S : Sto) : eqT true (.p (.str (reprText "light"))) (.p (.str (reprText "light"))) S = some (.p (.bool false), S) := eq_same (b := true) rfl rfl (dk_str ok_rlight)
theorem rnn (S : Sto) : eqT true (.p (.str "None")) (.p (.str "None")) S = some (.p (.bool false), S) := eq_same (b := true) rfl rfl (dk_str ok_none)
section
variable (C p ln lb lw : O) (m : Int) (fs : List Int) (W : CL) (less : Int) (o5 : Option D) (a b : D) (f z : Int) (h1 : 1 ≤ m) (h2 : m ≤ 20)
include h1 h2
theorem bk67 (n : Nat) (o12 : D) (w : D) (hw : (w = .str "sure" ∧ ¬ z * (m + 1) ≤ (fs.length : Int)) ∨ (w = .str "light" ∧ z * (m + 1) ≤ (fs.length : Int)) ∨ w = .none) :
    seqS (ifS (orT (asT (binF (eqT true) (argF reprT (consF (varF 13) nilF)) (argF reprT (consF (varF 14) nilF)))) (andT (asT (binF (eqT false) (varF 13) (conF (.str "sure")))) (asT (binF leI (binF mulI (varF 6) (binF addT (varF 1) (conF (.int 1)))) (argF lenT (consF (varF 4) nilF)))))) (retS (conF (.bool false))) nextS) (ifS (andT (asT (binF (eqT false) (varF 13) (conF (.str "light")))) (asT (binF gtI (binF mulI (varF 6) (binF addT (varF 1) (conF (.int 1)))) (argF lenT (consF (varF 4) nilF))))) (retS (conF (.bool false))) nextS) n (bkE m fs W less o5 (some (.int z)) a b (some (.int f)) (some o12) (some w) (some w)) [C, p, ln, lb, lw]
    = some (.nx, bkE m fs W less o5 (some (.int z)) a b (some (.int f)) (some o12) (some w) (some w), [C, p, ln, lb, lw]) := by
  have cm : CMul z (m + 1) := cmul_r (by omega) (by omega)
  rcases hw with ⟨rfl, hz⟩ | ⟨rfl, hz⟩ | rfl
  · have hz' : (fs.length : Int) < z * (m + 1) := by omega
    refine seq_go (if_nx (S' := [C, p, ln, lb, lw]) ?_ rfl) (if_nx (S' := [C, p, ln, lb, lw]) ?_ rfl)
    · simp [rp_str ln_rsure, rss, ss, cm, hz']
    · simp [sl]
  · refine seq_go (if_nx (S' := [C, p, ln, lb, lw]) ?_ rfl) (if_nx (S' := [C, p, ln, lb, lw]) ?_ rfl)
    · simp [rp_str ln_rlight, rll, ls]
    · simp [ll, cm, hz]
  · refine seq_go (if_nx (S' := [C, p, ln, lb, lw]) ?_ rfl) (if_nx (S' := [C, p, ln, lb, lw]) ?_ rfl)
    · simp [rp_none, rnn, eq_ns _ ok_sure]
    · simp [eq_ns _ ok_light]
end
end G66
set_option maxHeartbeats 1000000
/-! P66an: the run of blocks: the loop, whole. -/
namespace G66
open PySem PySem.Spec PyProof.Rows L2 Pv
noncomputable def bkB : SF := seqS (setS 12 (dgetxF (argF dictT (consF (argF listT (consF (binF ixT (varF 7) (conF (.int 0))) nilF)) nilF)) (varF 11) (conF (.int 0)))) (seqS (ifS (notT (asT (chainF leI leI (binF subI (varF 6) (binF ixT (varF 7) (conF (.int 1)))) (varF 12) (varF 6)))) (retS (conF (.bool false))) nextS) (seqS (setS 13 (callF 3 m_sure_by (consF (varF 1) (consF (varF 4) (consF (varF 11) nilF))))) (seqS (setS 14 (ifF (asT (binF leI (binF mulI (binF addT (varF 12) (binF ixT (varF 7) (conF (.int 1)))) (binF addT (varF 1) (conF (.int 1)))) (argF lenT (consF (varF 4) nilF)))) (conF (.str "light")) (conF .none))) (seqS (setS 14 (ifF (asT (binF gtI (binF mulI (varF 12) (binF addT (varF 1) (conF (.int 1)))) (argF lenT (consF (varF 4) nilF)))) (conF (.str "sure")) (varF 14))) (seqS (ifS (orT (asT (binF (eqT true) (argF reprT (consF (varF 13) nilF)) (argF reprT (consF (varF 14) nilF)))) (andT (asT (binF (eqT false) (varF 13) (conF (.str "sure")))) (asT (binF leI (binF mulI (varF 6) (binF addT (varF 1) (conF (.int 1)))) (argF lenT (consF (varF 4) nilF)))))) (retS (conF (.bool false))) nextS) (ifS (andT (asT (binF (eqT false) (varF 13) (conF (.str "light")))) (asT (binF gtI (binF mulI (varF 6) (binF addT (varF 1) (conF (.int 1)))) (argF lenT (consF (varF 4) nilF))))) (retS (conF (.bool false))) nextS))))))
theorem bl10 (C p : O) (m : Int) (ns bs : List Int) (L : CL) (hL : ns.zip bs = L) (hn : nd L) (hp : ∀ q ∈ L, 1 ≤ q.2) (hk : ∀ q ∈ L, 0 ≤ q.1 ∧ q.1 ≤ 1000) (h1 : 1 ≤ m) (h2 : m ≤ 20) (F : Fl (blk L)) (o5 o6 : Option D) (a b : D) :
    ∃ o6' o11 o12 o13 o14 : Option D, forS (zipI (consF (varF 2) (consF (varF 3) nilF))) (tupG 2 (consG (nameG 11) (consG (nameG 6) nilG))) bkB 2 (bkE m (blk L) (sortP (mg m (blk L)).1) (mg m (blk L)).2 o5 o6 a b none none none none) [C, p, .lst (ns.map PyData.int), .lst (bs.map PyData.int), .dic (enc L)]
    = some (.nx, bkE m (blk L) (sortP (mg m (blk L)).1) (mg m (blk L)).2 o5 o6' a b o11 o12 o13 o14, [C, p, .lst (ns.map PyData.int), .lst (bs.map PyData.int), .dic (enc L)]) := by
  have M := mg_ok (show 0 ≤ m by omega) (blk L)
  have hgt : ∀ f, gt (sortP (mg m (blk L)).1) f = gt (mg m (blk L)).1 f := fun f => (gt_perm (sortP_perm _).symm M.nd M.pos f).symm
  have hnd : nd (sortP (mg m (blk L)).1) := nd_perm (sortP_perm _).symm M.nd
  generalize hW : sortP (mg m (blk L)).1 = W at *
  obtain ⟨env', S', e1, rfl, o6', o11, o12, o13, o14, rfl⟩ := loop_inv (gf := tupG 2 (consG (nameG 11) (consG (nameG 6) nilG))) (sb := bkB) (n := gdTop 2 [(2, .lst (ns.map PyData.int)), (3, .lst (bs.map PyData.int))]) (m := 5) (gd := [(2, .lst (ns.map PyData.int)), (3, .lst (bs.map PyData.int))])
    (fun i env S => S = [C, p, .lst (ns.map PyData.int), .lst (bs.map PyData.int), .dic (enc L)] ∧ ∃ o6 o11 o12 o13 o14 : Option D, env = bkE m (blk L) W (mg m (blk L)).2 o5 o6 a b o11 o12 o13 o14)
    (fun i env S ⟨e, _⟩ => by subst e; intro q hq; simp at hq; rcases hq with rfl | rfl <;> rfl) (L.map pairI) 0 (bkE m (blk L) W (mg m (blk L)).2 o5 o6 a b none none none none) [C, p, .lst (ns.map PyData.int), .lst (bs.map PyData.int), .dic (enc L)] ⟨rfl, o6, none, none, none, none, rfl⟩ (fun i x env S hx ⟨e1, o6, o11, o12, o13, o14, e2⟩ => by
      subst e1 e2
      rw [List.getElem?_map] at hx
      obtain ⟨q, hq, rfl⟩ := Option.map_eq_some_iff.mp hx
      have hq := List.mem_of_getElem? hq
      have hqk := hk q hq
      have hcnt := blk_cnt hn hp q.1
      rw [mem_gt hn hq] at hcnt
      have hlo := M.lo q.1
      have hhi := M.hi q.1
      rw [hcnt] at hlo hhi
      have hw := word_cases m (blk L) q.1
      have hw' : (word m (blk L) q.1 = .str "sure" ∧ ¬ q.2 * (m + 1) ≤ ((blk L).length : Int)) ∨ (word m (blk L) q.1 = .str "light" ∧ q.2 * (m + 1) ≤ ((blk L).length : Int)) ∨ word m (blk L) q.1 = .none := by
        rcases hw with ⟨e, h⟩ | ⟨_, e, h⟩ | ⟨_, e, _⟩
        · refine .inl ⟨e, fun h3 => ?_⟩
          have : gt (mg m (blk L)).1 q.1 * (m + 1) ≤ q.2 * (m + 1) := Int.mul_le_mul_of_nonneg_right hhi (by omega)
          omega
        · refine .inr (.inl ⟨e, ?_⟩)
          have : q.2 * (m + 1) ≤ (gt (mg m (blk L)).1 q.1 + (mg m (blk L)).2) * (m + 1) := Int.mul_le_mul_of_nonneg_right (by omega) (by omega)
          omega
        · exact .inr (.inr e)
      have hdue : word m (blk L) q.1 = if ((blk L).length : Int) < gt W q.1 * (m + 1) then .str "sure" else if (gt W q.1 + (mg m (blk L)).2) * (m + 1) ≤ (blk L).length then .str "light" else .none := by
        rw [hgt]; rfl
      refine ⟨bkE m (blk L) W (mg m (blk L)).2 o5 (some (.int q.2)) a b (some (.int q.1)) o12 o13 o14, [C, p, .lst (ns.map PyData.int), .lst (bs.map PyData.int), .dic (enc L)], bkE m (blk L) W (mg m (blk L)).2 o5 (some (.int q.2)) a b (some (.int q.1)) (some (.int (gt W q.1))) (some (word m (blk L) q.1)) (some (word m (blk L) q.1)), [C, p, .lst (ns.map PyData.int), .lst (bs.map PyData.int), .dic (enc L)], ?_, ?_, rfl, some (.int q.2), some (.int q.1), some (.int (gt W q.1)), some (word m (blk L) q.1), some (word m (blk L) q.1), ?_⟩
      · simp [pairI]
      · have s1 := bk1 C p (.lst (ns.map PyData.int)) (.lst (bs.map PyData.int)) (.dic (enc L)) m (blk L) W (mg m (blk L)).2 o5 a b q.1 q.2 hnd (gdTop 2 [(2, .lst (ns.map PyData.int)), (3, .lst (bs.map PyData.int))]) o12 o13 o14
        have s2 := bk2 C p (.lst (ns.map PyData.int)) (.lst (bs.map PyData.int)) (.dic (enc L)) m (blk L) W (mg m (blk L)).2 o5 a b q.1 q.2 (gdTop 2 [(2, .lst (ns.map PyData.int)), (3, .lst (bs.map PyData.int))]) (gt W q.1) o13 o14 (by rw [hgt]; omega)
        have s3 := bk3 C p (.lst (ns.map PyData.int)) (.lst (bs.map PyData.int)) (.dic (enc L)) m (blk L) W (mg m (blk L)).2 o5 a b q.1 q.2 h1 h2 F hqk (gdTop 2 [(2, .lst (ns.map PyData.int)), (3, .lst (bs.map PyData.int))]) (gt W q.1) o13 o14
        have s67 := bk67 C p (.lst (ns.map PyData.int)) (.lst (bs.map PyData.int)) (.dic (enc L)) m (blk L) W (mg m (blk L)).2 o5 a b q.1 q.2 h1 h2 (gdTop 2 [(2, .lst (ns.map PyData.int)), (3, .lst (bs.map PyData.int))]) (.int (gt W q.1)) (word m (blk L) q.1) hw'
        have s45 := bk45 C p (.lst (ns.map PyData.int)) (.lst (bs.map PyData.int)) (.dic (enc L)) m (blk L) W (mg m (blk L)).2 o5 a b q.1 q.2 h1 h2 (gdTop 2 [(2, .lst (ns.map PyData.int)), (3, .lst (bs.map PyData.int))]) (gt W q.1) o14 (word m (blk L) q.1) hdue s67
        exact seq_go s1 (seq_go s2 (seq_go s3 s45))
      · simp [forget])
  refine ⟨o6', o11, o12, o13, o14, ?_⟩
  have hi : zipI (consF (varF 2) (consF (varF 3) nilF)) (bkE m (blk L) W (mg m (blk L)).2 o5 o6 a b none none none none) [C, p, .lst (ns.map PyData.int), .lst (bs.map PyData.int), .dic (enc L)] = some (L.map pairI, [(2, .lst (ns.map PyData.int)), (3, .lst (bs.map PyData.int))], [C, p, .lst (ns.map PyData.int), .lst (bs.map PyData.int), .dic (enc L)]) := by
    rw [← hL, ← zip_pairs]; simp
  rw [s_for_run hi rfl e1]
  simp [forget]
abbrev bmE (m : Int) (fs : List Int) (W : CL) (less : Int) (o5 o6 : Option D) (a b : D) (o11 o12 o13 o14 : Option D) (x15 : Option T) : Pv.Env := blE m (some (.loc 2)) (some (.loc 3)) (some (.p (tI fs))) o5 o6 (some (.mix [.ft (W.map pairI), .p (.int less)])) (some (.p a)) (some (.p b)) (some (.loc 4)) o11 o12 o13 o14 x15
theorem bl11 {k : Int} {C p : O} (h : PotOk k p) (hk : k ≤ 900000) (R : Sto) (m : Int) (fs : List Int) (W : CL) (less : Int) (o5 o6 : Option D) (a b : D) (o11 o12 o13 o14 : Option D) : ∃ (p' : O) (s : Int), PotOk (k + 1) p' ∧ 1 ≤ s ∧ s ≤ 21 ∧ setS 15 (binF addT (conF (.int 1)) (argF intT (consF (callF 2 m__law_take (consF (varF 0) (consF (conF (.int 21)) nilF))) nilF))) 2 (bmE m fs W less o5 o6 a b o11 o12 o13 o14 none) (C :: p :: R)
    = some (.nx, bmE m fs W less o5 o6 a b o11 o12 o13 o14 (some (.p (.int s))), C :: p' :: R) := by
  obtain ⟨p', d, e, g1, g2, g3⟩ := p_take (C := C) (R := R) (u := 21) h (by omega) (by decide) (by decide)
  refine ⟨p', 1 + d, g1, by omega, by omega, ?_⟩
  simp [e]
theorem bl12 (C p ln lb : O) (m : Int) (h1 : 1 ≤ m) (h2 : m ≤ 20) (L : CL) (hn : nd L) (hp : ∀ q ∈ L, 1 ≤ q.2) (hl : L.length ≤ 100) (F : Fl (blk L)) (W : CL) (less : Int) (o5 o6 : Option D) (a b : D) (o11 o12 o13 o14 : Option D) (s : Int) (hs : 1 ≤ s) (hs' : s ≤ 21) :
    ifS (asT (binF (eqT true) (argF listT (consF (callF 2 m_heavy (consF (varF 4) (consF (varF 15) nilF))) nilF)) (argF sortedT (consF (lockF 10 (lcF (keysI (varF 10)) (nameG 11) (asT (binF gtI (binF mulT (dgetF (varF 10) (varF 11)) (varF 15)) (argF lenT (consF (varF 4) nilF)))) (varF 11) [11])) nilF)))) (retS (conF (.bool false))) nextS 2 (bmE m (blk L) W less o5 o6 a b o11 o12 o13 o14 (some (.p (.int s)))) [C, p, ln, lb, .dic (enc L)]
    = some (.nx, bmE m (blk L) W less o5 o6 a b o11 o12 o13 o14 (some (.p (.int s))), [C, p, ln, lb, .dic (enc L)]) := by
  have e := r_heavy [C, p, ln, lb, .dic (enc L)] s (blk L) F.len F.rg hs hs'
  have cm : ∀ c, CMul c s := fun c => cmul_r (by omega) (by omega)
  have q := lc_dict (env := bmE m (blk L) W less o5 o6 a b o11 o12 o13 o14 (some (.p (.int s)))) (S := [C, p, ln, lb, .dic (enc L), .lst ((sortI (hv s (blk L))).map PyData.int)]) (M := L) (i := 10) (j := 4) (q := 11) (ft := asT (binF gtI (binF mulT (dgetF (varF 10) (varF 11)) (varF 15)) (argF lenT (consF (varF 4) nilF)))) (fe := varF 11) (fun y => decide (((blk L).length : Int) < y.2 * s)) (fun y => .int y.1) rfl rfl (by omega) (fun y hy acc => by
    have g := dget_run (fd := varF 10) (fi := varF 11) (env := bmE m (blk L) W less o5 o6 a b (some (.int y.1)) o12 o13 o14 (some (.p (.int s)))) (S := [C, p, ln, lb, .lck (enc L), .lst ((sortI (hv s (blk L))).map PyData.int), .lst acc]) (S1 := [C, p, ln, lb, .lck (enc L), .lst ((sortI (hv s (blk L))).map PyData.int), .lst acc]) (i := 4) (M := L) (f := y.1) (by simp) (dictOf_lck (by simp)) (by simp) (has_mem.mpr (List.mem_map_of_mem hy))
    rw [mem_gt hn hy] at g
    refine ⟨[], [], ?_, fun _ => ?_⟩
    · show asT (binF gtI (binF mulT (dgetF (varF 10) (varF 11)) (varF 15)) (argF lenT (consF (varF 4) nilF))) (bmE m (blk L) W less o5 o6 a b (some (.int y.1)) o12 o13 o14 (some (.p (.int s)))) [C, p, ln, lb, .lck (enc L), .lst ((sortI (hv s (blk L))).map PyData.int), .lst acc] = _
      rw [e_as, e_bin, e_bin, g]
      simp [e_mulTI (cm _)]
    · simp)
  have em : (L.filter fun y => decide (((blk L).length : Int) < y.2 * s)).map (fun y => PyData.int y.1) = ((L.filter fun y => decide (((blk L).length : Int) < y.2 * s)).map (·.1)).map PyData.int := by rw [List.map_map]; rfl
  rw [em] at q
  have st := sortD_ints ((L.filter fun y => decide (((blk L).length : Int) < y.2 * s)).map (·.1))
  rw [← sortI_congr (blk_hv hn hp s)] at st
  have q2 := e_sorted (S := [C, p, ln, lb, .dic (enc L), .lst ((sortI (hv s (blk L))).map PyData.int), .lst (((L.filter fun y => decide (((blk L).length : Int) < y.2 * s)).map (·.1)).map PyData.int)]) (i := 6) rfl st
  have q3 : eqT true (.loc 5) (.loc 7) [C, p, ln, lb, .dic (enc L), .lst ((sortI (hv s (blk L))).map PyData.int), .lst (((L.filter fun y => decide (((blk L).length : Int) < y.2 * s)).map (·.1)).map PyData.int), .lst ((sortI (hv s (blk L))).map PyData.int)] = some (.p (.bool false), _) := eq_same (b := true) rfl rfl (dk_lints (k := 59) _)
  refine if_nx (S' := [C, p, ln, lb, .dic (enc L), .lst ((sortI (hv s (blk L))).map PyData.int), .lst (((L.filter fun y => decide (((blk L).length : Int) < y.2 * s)).map (·.1)).map PyData.int), .lst ((sortI (hv s (blk L))).map PyData.int)]) ?_ rfl
  have a1 : argF listT (consF (callF 2 m_heavy (consF (varF 4) (consF (varF 15) nilF))) nilF) (bmE m (blk L) W less o5 o6 a b o11 o12 o13 o14 (some (.p (.int s)))) [C, p, ln, lb, .dic (enc L)] = some (.loc 5, [C, p, ln, lb, .dic (enc L), .lst ((sortI (hv s (blk L))).map PyData.int)]) := by simp [e]
  rw [e_as, e_bin, a1, Option.bind_some, e_bin1, e_arg, e_cons, q]
  simp only [List.length_cons, List.length_nil, List.cons_append, List.nil_append, Option.bind_some, e_cons1, e_nil, Option.map_some, e_cons2, e_argK] at q2 ⊢
  rw [q2]
  simp only [Option.bind_some, e_bin2]
  rw [q3]
  rfl
theorem bl13 (C p ln lb lw : O) (m : Int) (h1 : 1 ≤ m) (h2 : m ≤ 20) (fs : List Int) (F : Fl fs) (o5 o6 : Option D) (a b : D) (o11 o12 o13 o14 : Option D) (x15 : T) :
    ∃ S', retS (argF (allT false) (consF (lcF (tupI (callF 2 m_heavy (consF (varF 4) (consF (binF addT (varF 1) (conF (.int 1))) nilF)))) (nameG 11) yesT (dinF false (varF 11) (argF dictT (consF (argF listT (consF (binF ixT (varF 7) (conF (.int 0))) nilF)) nilF))) [11]) nilF)) 2 (bmE m fs (sortP (mg m fs).1) (mg m fs).2 o5 o6 a b o11 o12 o13 o14 (some x15)) [C, p, ln, lb, lw]
    = some (.rt (.p (.bool true)), bmE m fs (sortP (mg m fs).1) (mg m fs).2 o5 o6 a b o11 o12 o13 o14 (some x15), [C, p, ln, lb, lw] ++ S') := by
  have M := mg_ok (show 0 ≤ m by omega) fs
  have hnd : nd (sortP (mg m fs).1) := nd_perm (sortP_perm _).symm M.nd
  have e := r_heavy [C, p, ln, lb, lw] (m + 1) fs F.len F.rg (by omega) (by omega)
  have hvl : (sortI (hv (m + 1) fs)).length ≤ 1000 := by
    rw [(sortI_perm _).length_eq]
    have h3 := nd_le (hv (m + 1) fs) fs (hv_nd _ _) fun x hx => (mem_hv.mp hx).1
    have := F.len
    omega
  have q := lcF_typ (itf := tupI (callF 2 m_heavy (consF (varF 4) (consF (binF addT (varF 1) (conF (.int 1))) nilF)))) (gf := nameG 11) (ft := yesT) (fe := dinF false (varF 11) (argF dictT (consF (argF listT (consF (binF ixT (varF 7) (conF (.int 0))) nilF)) nilF))) (vs := [11]) (env := bmE m fs (sortP (mg m fs).1) (mg m fs).2 o5 o6 a b o11 o12 o13 o14 (some x15)) (S := [C, p, ln, lb, lw]) (S' := [C, p, ln, lb, lw]) (gd := []) PyData.int (fun _ => true) (fun _ => .bool true) (sortI (hv (m + 1) fs)) (by simp [e]) gd_nil (by omega) (fun y hy acc => by
    have hy' : y ∈ hv (m + 1) fs := (sortI_perm _).mem_iff.mp hy
    have hh := hv_has (show 0 ≤ m by omega) hy'
    have hh' : has (sortP (mg m fs).1) y = true := by
      rw [has_mem] at hh ⊢
      exact (List.Perm.mem_iff ((sortP_perm (mg m fs).1).map _)).mpr hh
    have d := dict_rows (fe := binF ixT (varF 7) (conF (.int 0))) (env := bmE m fs (sortP (mg m fs).1) (mg m fs).2 o5 o6 a b (some (.int y)) o12 o13 o14 (some x15)) (S := [C, p, ln, lb, lw, .lst acc]) hnd (by simp [dn_mix])
    have g := din_run (S := [C, p, ln, lb, lw, .lst acc]) (S1 := [C, p, ln, lb, lw, .lst acc]) (fi := varF 11) (b := false) (f := y) (by simp) d (M := sortP (mg m fs).1) (dictOf_dic (by simp))
    rw [hh'] at g
    refine ⟨bmE m fs (sortP (mg m fs).1) (mg m fs).2 o5 o6 a b (some (.int y)) o12 o13 o14 (some x15), [], [.lst ((sortP (mg m fs).1).map pairI), .dic (enc (sortP (mg m fs).1))], ?_, ?_, fun _ => ?_⟩
    · simp [wipeE]
    · simp
    · exact g)
  have em : ((sortI (hv (m + 1) fs)).filter fun _ => true).map (fun _ => PyData.bool true) = (List.replicate (sortI (hv (m + 1) fs)).length true).map PyData.bool := by
    rw [const_map, List.map_replicate]
  rw [em] at q
  have q2 := e_allL (b := false) (S := [C, p, ln, lb, lw, .lst ((List.replicate (sortI (hv (m + 1) fs)).length true).map PyData.bool)]) (i := 5) (bs := List.replicate (sortI (hv (m + 1) fs)).length true) rfl
  rw [if_neg Bool.false_ne_true, all_true] at q2
  refine ⟨[.lst ((List.replicate (sortI (hv (m + 1) fs)).length true).map PyData.bool)], ret_go ?_⟩
  rw [e_arg, e_cons, q]
  simp only [List.length_cons, List.length_nil, List.cons_append, List.nil_append, Option.bind_some, e_cons1, e_nil, Option.map_some, e_cons2, e_argK]
  exact q2
end G66
set_option maxHeartbeats 1000000
/-! P66ao: blocks whole. -/
namespace G66
open PySem PySem.Spec PyProof.Rows L2 Pv
theorem zip_keys : ∀ (ns bs : List Int), bs.length = ns.length → (ns.zip bs).map (·.1) = ns
  | [], bs, _ => by simp
  | n :: ns, [], h => by simp at h
  | n :: ns, b :: bs, h => by
    rw [List.zip_cons_cons, List.map_cons, zip_keys ns bs (by simpa using h)]
theorem blk_bound {L : CL} (hl : L.length ≤ 20) (hb : ∀ q ∈ L, 1 ≤ q.2 ∧ q.2 ≤ 12) (hk : ∀ q ∈ L, 0 ≤ q.1 ∧ q.1 ≤ 1000) : Fl (blk L) := by
  refine ⟨?_, fun f hf => by obtain ⟨q, hq, rfl⟩ := blk_mem hf; exact hk q hq⟩
  have : (blk L).length ≤ 12 * L.length := by
    clear hl hk
    induction L with
    | nil => simp [blk]
    | cons q M ih =>
      have h1 := hb q List.mem_cons_self
      have ih := ih fun z hz => hb z (List.mem_cons_of_mem _ hz)
      have e : blk (q :: M) = List.replicate q.2.toNat q.1 ++ blk M := rfl
      rw [e, List.length_append, List.length_replicate, List.length_cons]
      omega
  omega
theorem r_blocks {k : Int} {C p : O} (h : PotOk k p) (hk : k ≤ 700000) (m : Int) (h1 : 1 ≤ m) (h2 : m ≤ 20) : ∃ p', m__law_are_blocks_right [.loc 1, .p (.int m)] [C, p] = some (.p (.bool true), [C, p']) ∧ PotOk (k + 100) p' := by
  obtain ⟨p1, ns, n, hp1, N, n1, n2, b1⟩ := bl1 (C := C) h (by omega) m h1 h2
  have hnl := N.len
  obtain ⟨p2, bs, hp2, hbl, hbs, b2⟩ := bl2 (C := C) hp1 (by omega) m ns (by omega)
  have b3 := bl3 m [C, p2, .lst (ns.map PyData.int), .lst (bs.map PyData.int)]
  obtain ⟨L, hL⟩ : ∃ L, ns.zip bs = L := ⟨_, rfl⟩
  have hkeys : L.map (·.1) = ns := by rw [← hL]; exact zip_keys ns bs hbl
  have hnd : nd L := by unfold nd; rw [hkeys]; exact N.nd
  have hll : L.length ≤ 20 := by have := congrArg List.length hkeys; rw [List.length_map] at this; omega
  have hb : ∀ q ∈ L, 1 ≤ q.2 ∧ q.2 ≤ 12 := fun q hq => hbs _ (by rw [← hL] at hq; exact (List.of_mem_zip (show (q.1, q.2) ∈ ns.zip bs from hq)).2)
  have hkk : ∀ q ∈ L, 0 ≤ q.1 ∧ q.1 ≤ 1000 := fun q hq => N.rg _ (by rw [← hkeys]; exact List.mem_map_of_mem hq)
  have hpos : ∀ q ∈ L, 1 ≤ q.2 := fun q hq => (hb q hq).1
  have F := blk_bound hll hb hkk
  obtain ⟨o5, o6, b4⟩ := bl4 C p2 m L ns bs hL hll hb
  have b5 := bl5 C p2 (.lst (ns.map PyData.int)) (.lst (bs.map PyData.int)) m h1 h2 (blk L) F o5 o6
  have b6 := bl6 C p2 (.lst (ns.map PyData.int)) (.lst (bs.map PyData.int)) m h1 h2 (blk L) F o5 o6
  have b7 := bl7 C p2 (.lst (ns.map PyData.int)) (.lst (bs.map PyData.int)) m h1 h2 (blk L) F o5 o6
  have b8 := bl8 C p2 (.lst (ns.map PyData.int)) (.lst (bs.map PyData.int)) m h1 h2 (blk L) F o5 o6
  have b9 := bl9 C p2 m ns bs L hL hnd (.p (tI (blk L))) (.mix [.ft ((sortP (mg m (blk L)).1).map pairI), .p (.int (mg m (blk L)).2)]) o5 o6 (.int (sumC (mg m (blk L)).1)) (.int ((mg m (blk L)).2 * (m + 1)))
  obtain ⟨o6', o11, o12, o13, o14, b10⟩ := bl10 C p2 m ns bs L hL hnd hpos hkk h1 h2 F o5 o6 (.int (sumC (mg m (blk L)).1)) (.int ((mg m (blk L)).2 * (m + 1)))
  obtain ⟨p3, s, hp3, hs1, hs2, b11⟩ := bl11 (C := C) hp2 (by omega) [.lst (ns.map PyData.int), .lst (bs.map PyData.int), .dic (enc L)] m (blk L) (sortP (mg m (blk L)).1) (mg m (blk L)).2 o5 o6' (.int (sumC (mg m (blk L)).1)) (.int ((mg m (blk L)).2 * (m + 1))) o11 o12 o13 o14
  have b12 := bl12 C p3 (.lst (ns.map PyData.int)) (.lst (bs.map PyData.int)) m h1 h2 L hnd hpos (by omega) F (sortP (mg m (blk L)).1) (mg m (blk L)).2 o5 o6' (.int (sumC (mg m (blk L)).1)) (.int ((mg m (blk L)).2 * (m + 1))) o11 o12 o13 o14 s hs1 hs2
  obtain ⟨S', b13⟩ := bl13 C p3 (.lst (ns.map PyData.int)) (.lst (bs.map PyData.int)) (.dic (enc L)) m h1 h2 (blk L) F o5 o6' (.int (sumC (mg m (blk L)).1)) (.int ((mg m (blk L)).2 * (m + 1))) o11 o12 o13 o14 (.p (.int s))
  refine ⟨p3, m_ret (show seqS _ (seqS _ (seqS _ (seqS _ (seqS _ (seqS _ (seqS _ (seqS _ (seqS _ (seqS _ (seqS _ (seqS _ _))))))))))) _ _ _ = _ from seq_go b1 (seq_go b2 (seq_go b3 (seq_go b4 (seq_go b5 (seq_go b6 (seq_go b7 (seq_go b8 (seq_go b9 (seq_go b10 (seq_go b11 (seq_go b12 b13)))))))))))) (by simp), hp3.mono (by omega)⟩
end G66
set_option maxHeartbeats 1000000
/-! P66ap: the run of lots, its first part. -/
namespace G66
open PySem PySem.Spec PyProof.Rows L2 Pv
abbrev loE (m : Int) (x2 x3 x4 x5 x6 x7 x8 x9 x10 x11 x12 x13 : Option T) (o14 o15 : Option D) (x16 x17 x18 x19 : Option T) : Pv.Env := [some (.loc 1), some (.p (.int m)), x2, x3, x4, x5, x6, x7, x8, x9, x10, x11, x12, x13, o14.map T.p, o15.map T.p, x16, x17, x18, x19, none]
theorem lo1 {k : Int} {p C : O} (h : PotOk k p) (hk : k ≤ 900000) (m : Int) : ∃ (p' : O) (s : Int), PotOk (k + 2) p' ∧ 1 ≤ s ∧ s ≤ 30 ∧ setS 2 (binF addT (conF (.int 1)) (argF intT (consF (callF 2 m__law_take (consF (varF 0) (consF (callF 2 m__law_of (consF (varF 0) (consF (lstF (consF (conF (.int 4)) (consF (conF (.int 30)) nilF))) nilF))) nilF))) nilF))) 2 (loE m none none none none none none none none none none none none none none none none none none) [C, p]
    = some (.nx, loE m (some (.p (.int s))) none none none none none none none none none none none none none none none none none, [C, p']) := by
  obtain ⟨p1, u, e1, hp1, hu⟩ := p_of (C := C) (R := []) (x := 4) (y := 30) h (by omega)
  obtain ⟨p2, d, e2, hp2, h2, h3⟩ := p_take (C := C) (R := [.lst [.int 4, .int 30]]) (u := u) hp1 (by omega) (by omega) (by omega)
  refine ⟨p2, 1 + d, by rw [show k + 2 = k + 1 + 1 by omega]; exact hp2, by omega, by omega, ?_⟩
  simp at e1 e2
  simp [allP, e1, e2]
theorem lo2 {k : Int} {p C : O} (h : PotOk k p) (hk : k ≤ 700000) (m s : Int) (h1 : 1 ≤ s) (h2 : s ≤ 30) : ∃ (p' : O) (fs : List Int), PotOk (k + 200) p' ∧ fs.length < 150 ∧ (∀ f ∈ fs, 0 ≤ f ∧ f < s) ∧ setS 3 (argF tupleFT (consF (lcF (range1I (consF (callF 2 m__law_take (consF (varF 0) (consF (conF (.int 150)) nilF))) nilF)) (nameG 20) yesT (argF intT (consF (callF 2 m__law_take (consF (varF 0) (consF (varF 2) nilF))) nilF)) [20]) nilF)) 2 (loE m (some (.p (.int s))) none none none none none none none none none none none none none none none none none) [C, p]
    = some (.nx, loE m (some (.p (.int s))) (some (.ft (fs.map PyData.int))) none none none none none none none none none none none none none none none none, [C, p']) := by
  obtain ⟨p1, u, e1, hp1, g1, g2⟩ := p_take (C := C) (R := []) (u := 150) h (by omega) (by decide) (by decide)
  obtain ⟨n, hn⟩ := Int.eq_ofNat_of_zero_le g1
  subst hn
  obtain ⟨p2, fs, hp2, hl, hf, e⟩ := p_row (C := C) hp1 [] (by omega) (u := s) (by omega) (by omega) n (by omega) (fun f => 0 ≤ f ∧ f < s) (i := 20) (fe := argF intT (consF (callF 2 m__law_take (consF (varF 0) (consF (varF 2) nilF))) nilF))
    (env := loE m (some (.p (.int s))) none none none none none none none none none none none none none none none none none) (fA := consF (callF 2 m__law_take (consF (varF 0) (consF (conF (.int 150)) nilF))) nilF) (S := [C, p]) (by simp [e1]) (fun p p' R' d z e h0 hd => by
      refine ⟨d, ⟨h0, hd⟩, ?_⟩
      simp at e
      simp [e])
  refine ⟨p2, fs, hp2.mono (by omega), by omega, hf, ?_⟩
  have q := e_tupleF (S := [C, p2, .lst (fs.map PyData.int)]) (i := 2) rfl
  rw [s_set, e_arg, e_cons, e]
  simp [q]
theorem lo3 {k : Int} {p C : O} (h : PotOk k p) (hk : k ≤ 900000) (m s : Int) (sN : Nat) (hs : (sN : Int) = s) (h2 : s ≤ 30) (x3 : T) : ∃ (p' : O) (ns : List Int), PotOk (k + 30) p' ∧ Names sN ns ∧ setS 4 (lcF (lstI (callF 3 m__law_some (consF (varF 0) (consF (lrg1F (conF (.int 1001))) (consF (varF 2) nilF))))) (nameG 14) yesT (argF intT (consF (varF 14) nilF)) [14]) 2 (loE m (some (.p (.int s))) (some x3) none none none none none none none none none none none none none none none none) [C, p]
    = some (.nx, loE m (some (.p (.int s))) (some x3) (some (.loc 2)) none none none none none none none none none none none none none none none, [C, p', .lst (ns.map PyData.int)]) := by
  obtain ⟨p', ns, N, hp, e⟩ := p_namesF (C := C) h [] sN (by omega) (by omega) (fe := varF 2) (env := loE m (some (.p (.int s))) (some x3) none none none none none none none none none none none none none none none none) (i := 14) (by simp) rfl (by
    rw [hs]; simp)
  refine ⟨p', ns, hp.mono (by omega), N, ?_⟩
  rw [s_set, e]
  simp [gcV, gcT, gcOb, putSlot, putLoc]
/-- the name of a flow -/
def nm (ns : List Int) (f : Int) : Int := ns.getD f.toNat 0
theorem nm_at {ns : List Int} {sN : Nat} (N : Names sN ns) {f : Int} (h0 : 0 ≤ f) (h1 : f < sN) : atI (ns.map PyData.int) f = some (.int (nm ns f)) ∧ nm ns f ∈ ns := by
  obtain ⟨n, hn⟩ := Int.eq_ofNat_of_zero_le h0
  subst hn
  have hl : n < ns.length := by rw [N.len]; omega
  have e : nm ns (n : Int) = ns[n] := by
    unfold nm
    rw [Int.toNat_natCast, List.getD_eq_getElem?_getD, List.getElem?_eq_getElem hl]; rfl
  rw [e]
  exact ⟨atI_nat (by rw [List.getElem?_map, List.getElem?_eq_getElem hl]; rfl), List.getElem_mem hl⟩
theorem nm_inj {ns : List Int} {sN : Nat} (N : Names sN ns) {f g : Int} (h0 : 0 ≤ f) (h1 : f < sN) (h2 : 0 ≤ g) (h3 : g < sN) (h : nm ns f = nm ns g) : f = g := by
  obtain ⟨n, hn⟩ := Int.eq_ofNat_of_zero_le h0
  obtain ⟨n', hn'⟩ := Int.eq_ofNat_of_zero_le h2
  subst hn hn'
  have hl : n < ns.length := by rw [N.len]; omega
  have hl' : n' < ns.length := by rw [N.len]; omega
  unfold nm at h
  rw [Int.toNat_natCast, Int.toNat_natCast, List.getD_eq_getElem?_getD, List.getD_eq_getElem?_getD, List.getElem?_eq_getElem hl, List.getElem?_eq_getElem hl'] at h
  have : n = n' := (List.getElem?_inj hl N.nd).mp (by rw [List.getElem?_eq_getElem hl, List.getElem?_eq_getElem hl']; exact congrArg some h)
  rw [this]
theorem lo4 (C p : O) (m s : Int) (sN : Nat) (hs : (sN : Int) = s) (ns fs : List Int) (N : Names sN ns) (hl : fs.length < 150) (hf : ∀ f ∈ fs, 0 ≤ f ∧ f < s) : setS 5 (argF tupleT (consF (lcF (tupI (varF 3)) (nameG 14) yesT (binF ixT (varF 4) (varF 14)) [14]) nilF)) 2 (loE m (some (.p (.int s))) (some (.ft (fs.map PyData.int))) (some (.loc 2)) none none none none none none none none none none none none none none none) [C, p, .lst (ns.map PyData.int)]
    = some (.nx, loE m (some (.p (.int s))) (some (.ft (fs.map PyData.int))) (some (.loc 2)) (some (.p (tI (fs.map (nm ns))))) none none none none none none none none none none none none none none, [C, p, .lst (ns.map PyData.int)]) := by
  have q := lcF_typ (itf := tupI (varF 3)) (gf := nameG 14) (ft := yesT) (fe := binF ixT (varF 4) (varF 14)) (vs := [14]) (env := loE m (some (.p (.int s))) (some (.ft (fs.map PyData.int))) (some (.loc 2)) none none none none none none none none none none none none none none none) (S := [C, p, .lst (ns.map PyData.int)]) (S' := [C, p, .lst (ns.map PyData.int)]) (gd := []) PyData.int (fun _ => true) (fun f => .int (nm ns f)) fs (by simp) gd_nil (by omega) (fun f hm acc => by
    have a := (nm_at N (hf f hm).1 (by have := (hf f hm).2; omega)).1
    refine ⟨loE m (some (.p (.int s))) (some (.ft (fs.map PyData.int))) (some (.loc 2)) none none none none none none none none none (some (.int f)) none none none none none, [], [], ?_, ?_, fun _ => ?_⟩
    · simp [wipeE]
    · simp
    · simp [a])
  have ef : (fs.filter fun _ => true) = fs := List.filter_eq_self.mpr fun _ _ => rfl
  have em : fs.map (fun f => PyData.int (nm ns f)) = (fs.map (nm ns)).map PyData.int := by rw [List.map_map]; rfl
  rw [ef, em] at q
  have q2 := e_tuple (S := [C, p, .lst (ns.map PyData.int), .lst ((fs.map (nm ns)).map PyData.int)]) (i := 3) rfl
  simp only [List.cons_append, List.nil_append, List.length_cons, List.length_nil] at q
  rw [s_set, e_arg, e_cons, q]
  simp [-List.map_map, q2]
end G66
set_option maxHeartbeats 1000000
/-! P66aq: the run of lots goes on. -/
namespace G66
open PySem PySem.Spec PyProof.Rows L2 Pv
abbrev mx (L : CL) (n : Int) : T := .mix [.ft (L.map pairI), .p (.int n)]
abbrev rws (m : Int) (fs : List Int) : CL := sortP (mg m fs).1
theorem rws_len {m : Int} (h1 : 1 ≤ m) (h2 : m ≤ 20) (fs : List Int) : (rws m fs).length ≤ 20 ∧ ((rws m fs).length : Int) ≤ m := by
  have M := mg_ok (show 0 ≤ m by omega) fs
  have := M.len
  unfold rws
  rw [(sortP_perm _).length_eq]
  omega
theorem rws_key {m : Int} (h1 : 1 ≤ m) {fs : List Int} {p : Int × Int} (hp : p ∈ rws m fs) : p.1 ∈ fs := by
  have M := mg_ok (show 0 ≤ m by omega) fs
  have hm := (sortP_perm _).mem_iff.mp hp
  have h3 := M.hi p.1
  rw [mem_gt M.nd hm] at h3
  have := M.pos p hm
  exact List.count_pos_iff.mp (by omega)
section
variable (C p : O) (m s : Int) (h1 : 1 ≤ m) (h2 : m ≤ 20) (ns fs : List Int) (sN : Nat) (hs : (sN : Int) = s) (N : Names sN ns) (F : Fl fs) (hf : ∀ f ∈ fs, 0 ≤ f ∧ f < s)
include h1 h2 F
theorem lo5 (ln : O) (far : List Int) (Ff : Fl far) : parS 6 7 (consF (callF 2 m_counters (consF (varF 1) (consF (varF 3) nilF))) (consF (callF 2 m_counters (consF (varF 1) (consF (varF 5) nilF))) nilF)) 2 (loE m (some (.p (.int s))) (some (.ft (fs.map PyData.int))) (some (.loc 2)) (some (.p (tI far))) none none none none none none none none none none none none none none) [C, p, ln]
    = some (.nx, loE m (some (.p (.int s))) (some (.ft (fs.map PyData.int))) (some (.loc 2)) (some (.p (tI far))) (some (mx (rws m fs) (mg m fs).2)) (some (mx (rws m far) (mg m far).2)) none none none none none none none none none none none none, [C, p, ln]) := by
  have e1 := fun S => r_counters S m fs h1 h2 F.len F.rg
  have e2 := fun S => r_counters S m far h1 h2 Ff.len Ff.rg
  simp [e1, e2, belows, below]
include hs N hf
theorem lo6 : ifS (orT (asT (binF (eqT true) (varF 6) (callF 2 m__law_go (consF (varF 1) (consF (varF 3) nilF))))) (asT (binF (eqT true) (varF 7) (tupF (consF (argF tupleT (consF (argF sortedT (consF (lcF (tupI (binF ixT (varF 6) (conF (.int 0)))) (tupG 2 (consG (nameG 14) (consG (nameG 15) nilG))) yesT (tupF (consF (binF ixT (varF 4) (varF 14)) (consF (varF 15) nilF))) [14, 15]) nilF)) nilF)) (consF (binF ixT (varF 6) (conF (.int 1))) nilF)))))) (retS (conF (.bool false))) nextS 2 (loE m (some (.p (.int s))) (some (.ft (fs.map PyData.int))) (some (.loc 2)) (some (.p (tI (fs.map (nm ns))))) (some (mx (rws m fs) (mg m fs).2)) (some (mx (rws m (fs.map (nm ns))) (mg m (fs.map (nm ns))).2)) none none none none none none none none none none none none) [C, p, .lst (ns.map PyData.int)]
    = some (.nx, loE m (some (.p (.int s))) (some (.ft (fs.map PyData.int))) (some (.loc 2)) (some (.p (tI (fs.map (nm ns))))) (some (mx (rws m fs) (mg m fs).2)) (some (mx (rws m (fs.map (nm ns))) (mg m (fs.map (nm ns))).2)) none none none none none none none none none none none none, [C, p, .lst (ns.map PyData.int)]) := by
  have hb := fun f (h : f ∈ fs) => (show f < (sN : Int) by have := (hf f h).2; omega)
  have hr := mg_ren (g := nm ns) (many := m) fs fun a ha b hb' e => nm_inj N (hf a ha).1 (hb a ha) (hf b hb').1 (hb b hb') e
  have hr1 : rws m (fs.map (nm ns)) = sortP (ren (nm ns) (mg m fs).1) := by unfold rws; rw [hr]
  have hr2 : (mg m (fs.map (nm ns))).2 = (mg m fs).2 := by rw [hr]
  rw [hr1, hr2]
  have e1 := fun S => r_go S m fs (by have := F.len; omega)
  have q1 : ∀ S, eqT true (.p (.tuple [.tuple ((rws m fs).map pairI), .int (mg m fs).2])) (.p (.tuple [.tuple ((rws m fs).map pairI), .int (mg m fs).2])) S = some (.p (.bool false), S) := fun S => eq_same (b := true) rfl rfl (dk_pair (dk_rows (k := 57) _) (dk_int _))
  have q := lcF_typ (itf := tupI (binF ixT (varF 6) (conF (.int 0)))) (gf := tupG 2 (consG (nameG 14) (consG (nameG 15) nilG))) (ft := yesT) (fe := tupF (consF (binF ixT (varF 4) (varF 14)) (consF (varF 15) nilF))) (vs := [14, 15]) (env := loE m (some (.p (.int s))) (some (.ft (fs.map PyData.int))) (some (.loc 2)) (some (.p (tI (fs.map (nm ns))))) (some (mx (rws m fs) (mg m fs).2)) (some (mx (sortP (ren (nm ns) (mg m fs).1)) (mg m fs).2)) none none none none none none none none none none none none) (S := [C, p, .lst (ns.map PyData.int)]) (S' := [C, p, .lst (ns.map PyData.int)]) (gd := []) pairI (fun _ => true) (fun q => pairI (nm ns q.1, q.2)) (rws m fs) (by simp [dn_mix]) gd_nil (by have := (rws_len h1 h2 fs).1; omega) (fun y hy acc => by
    have hyf := rws_key h1 hy
    have a := (nm_at N (hf _ hyf).1 (hb _ hyf)).1
    refine ⟨loE m (some (.p (.int s))) (some (.ft (fs.map PyData.int))) (some (.loc 2)) (some (.p (tI (fs.map (nm ns))))) (some (mx (rws m fs) (mg m fs).2)) (some (mx (sortP (ren (nm ns) (mg m fs).1)) (mg m fs).2)) none none none none none none (some (.int y.1)) (some (.int y.2)) none none none none, [], [], ?_, ?_, fun _ => ?_⟩
    · simp [wipeE, pairI]
    · simp
    · simp [a, tupT, allP, pairI])
  have ef : ((rws m fs).filter fun _ => true) = rws m fs := List.filter_eq_self.mpr fun _ _ => rfl
  have em : (rws m fs).map (fun q => pairI (nm ns q.1, q.2)) = (ren (nm ns) (rws m fs)).map pairI := by unfold ren; rw [List.map_map]; rfl
  rw [ef, em] at q
  have st := sortD_pairs' (ren (nm ns) (rws m fs))
  rw [sort_ren] at st
  have q2 := e_sorted (S := [C, p, .lst (ns.map PyData.int), .lst ((ren (nm ns) (rws m fs)).map pairI)]) (i := 3) rfl st
  have q3 := e_tuple (S := [C, p, .lst (ns.map PyData.int), .lst ((ren (nm ns) (rws m fs)).map pairI), .lst ((sortP (ren (nm ns) (mg m fs).1)).map pairI)]) (i := 4) rfl
  have q4 : ∀ S, eqT true (.p (.tuple [.tuple ((sortP (ren (nm ns) (mg m fs).1)).map pairI), .int (mg m fs).2])) (.p (.tuple [.tuple ((sortP (ren (nm ns) (mg m fs).1)).map pairI), .int (mg m fs).2])) S = some (.p (.bool false), S) := fun S => eq_same (b := true) rfl rfl (dk_pair (dk_rows (k := 57) _) (dk_int _))
  simp only [List.cons_append, List.nil_append, List.length_cons, List.length_nil, Nat.zero_add, Nat.reduceAdd] at q q2 q3
  have t1 : binF (eqT true) (varF 6) (callF 2 m__law_go (consF (varF 1) (consF (varF 3) nilF))) (loE m (some (.p (.int s))) (some (.ft (fs.map PyData.int))) (some (.loc 2)) (some (.p (tI (fs.map (nm ns))))) (some (mx (rws m fs) (mg m fs).2)) (some (mx (sortP (ren (nm ns) (mg m fs).1)) (mg m fs).2)) none none none none none none none none none none none none) [C, p, .lst (ns.map PyData.int)] = some (.p (.bool false), [C, p, .lst (ns.map PyData.int)]) := by
    simp [dn_mix, e1]
    exact q1 _
  refine if_nx (S' := [C, p, .lst (ns.map PyData.int), .lst ((ren (nm ns) (rws m fs)).map pairI), .lst ((sortP (ren (nm ns) (mg m fs).1)).map pairI)]) ?_ rfl
  rw [e_orT, e_as, t1, Option.bind_some, e_asK, Option.bind_some, e_orT0 rfl, e_as, e_bin, e_var]
  show (Option.bind (Option.bind (varK _ (some (some (mx (sortP (ren (nm ns) (mg m fs).1)) (mg m fs).2)))) _) _) = _
  rw [e_varK, dn_mix, Option.bind_some, e_bin1, e_tup, e_cons, e_arg, e_cons, e_arg, e_cons, q]
  simp only [Option.bind_some, e_cons1, e_nil, Option.map_some, e_cons2, e_argK, q2, q3]
  simp [dn_mix, tupT, allP, q4]
end
theorem lo7 {k : Int} {p C : O} (h : PotOk k p) (hk : k ≤ 900000) (m s : Int) (fs : List Int) (hl : fs.length < 150) (x4 x5 x6 x7 : Option T) (R : Sto) : ∃ (p' : O) (c : Nat), PotOk (k + 1) p' ∧ c ≤ fs.length ∧ setS 8 (argF intT (consF (callF 2 m__law_take (consF (varF 0) (consF (binF addT (argF lenT (consF (varF 3) nilF)) (conF (.int 1))) nilF))) nilF)) 2 (loE m (some (.p (.int s))) (some (.ft (fs.map PyData.int))) x4 x5 x6 x7 none none none none none none none none none none none none) (C :: p :: R)
    = some (.nx, loE m (some (.p (.int s))) (some (.ft (fs.map PyData.int))) x4 x5 x6 x7 (some (.p (.int (c : Int)))) none none none none none none none none none none none, C :: p' :: R) := by
  obtain ⟨p', d, e, g1, g2, g3⟩ := p_take (C := C) (R := R) (u := (fs.length : Int) + 1) h (by omega) (by omega) (by omega)
  obtain ⟨c, hc⟩ := Int.eq_ofNat_of_zero_le g2
  subst hc
  refine ⟨p', c, g1, by omega, ?_⟩
  simp [e]
theorem lo8 (C p : O) (m s : Int) (h1 : 1 ≤ m) (h2 : m ≤ 20) (fs : List Int) (F : Fl fs) (c : Nat) (hc : c ≤ fs.length) (x4 x5 x6 x7 : Option T) (ln : O) : parS 9 10 (consF (callF 2 m_counters (consF (varF 1) (consF (sliceF (varF 3) noO (someO (varF 8))) nilF))) (consF (callF 2 m_counters (consF (varF 1) (consF (sliceF (varF 3) (someO (varF 8)) noO) nilF))) nilF)) 2 (loE m (some (.p (.int s))) (some (.ft (fs.map PyData.int))) x4 x5 x6 x7 (some (.p (.int (c : Int)))) none none none none none none none none none none none) [C, p, ln]
    = some (.nx, loE m (some (.p (.int s))) (some (.ft (fs.map PyData.int))) x4 x5 x6 x7 (some (.p (.int (c : Int)))) (some (mx (rws m (fs.take c)) (mg m (fs.take c)).2)) (some (mx (rws m (fs.drop c)) (mg m (fs.drop c)).2)) none none none none none none none none none, [C, p, ln]) := by
  have c1 := cut_toI (xs := fs) (m := (c : Int)) rfl hc
  have c2 := cut_fromI (xs := fs) (m := (c : Int)) rfl hc
  have fl := F.len
  have e1 := fun S => r_counters S m (fs.take c) h1 h2 (by rw [List.length_take]; omega) (fun f hf => F.rg f (List.mem_of_mem_take hf))
  have e2 := fun S => r_counters S m (fs.drop c) h1 h2 (by rw [List.length_drop]; omega) (fun f hf => F.rg f (List.mem_of_mem_drop hf))
  simp [-List.map_take, -List.map_drop, sliceF, noO, someO, slT, c1, c2, e1, e2, belows, below]
end G66
set_option maxHeartbeats 1000000
/-! P66as: the run of lots: merged, the own sums. -/
namespace G66
open PySem PySem.Spec PyProof.Rows L2 Pv
theorem both_step {A B : CL} {i : Nat} {q : Int × Int} (h : B[i]? = some q) : both A (B.take (i + 1)) = put (both A (B.take i)) q.1 (gt (both A (B.take i)) q.1 + q.2) := by
  unfold both
  rw [List.take_succ, h, Option.toList_some, List.foldl_append]
  rfl
abbrev cutRows (m : Int) (M : CL) : CL := sortP (cutTo (lessOf m M) M)
abbrev lpE (m s : Int) (fs : List Int) (A B : CL) (la lb : Int) (x4 x5 x6 x7 x8 x11 x12 x13 : Option T) (o14 o15 : Option D) (x16 x17 x18 x19 : Option T) : Pv.Env := loE m (some (.p (.int s))) (some (.ft (fs.map PyData.int))) x4 x5 x6 x7 x8 (some (mx A la)) (some (mx B lb)) x11 x12 x13 o14 o15 x16 x17 x18 x19
section
variable (C p ln : O) (m s : Int) (h1 : 1 ≤ m) (h2 : m ≤ 20) (fs : List Int) (A B : CL) (la lb : Int) (RA : Rows A) (RB : Rows B) (hA : (A.length : Int) ≤ m) (hB : (B.length : Int) ≤ m) (x4 x5 x6 x7 x8 : Option T)
include h1 h2 RA RB hA hB
theorem lo9 : asgS (callF 3 m_merged (consF (rawF 1) (consF (binF ixT (rawF 9) (conF (.int 0))) (consF (binF ixT (rawF 10) (conF (.int 0))) nilF)))) (tupG 2 (consG (nameG 11) (consG (nameG 12) nilG))) 2 (lpE m s fs A B la lb x4 x5 x6 x7 x8 none none none none none none none none none) [C, p, ln]
    = some (.nx, lpE m s fs A B la lb x4 x5 x6 x7 x8 (some (.p (tP (cutRows m (both A B))))) (some (.p (.int (lessOf m (both A B))))) none none none none none none none, [C, p, ln]) := by
  have e := r_merged [C, p, ln] m A B (.ft (B.map pairI)) h1 h2 rfl (fun _ => rfl) RA RB hA hB
  simp [e]
theorem lo10 : ifS (orT (asT (binF (eqT true) (callF 3 m_merged (consF (rawF 1) (consF (binF ixT (rawF 10) (conF (.int 0))) (consF (binF ixT (rawF 9) (conF (.int 0))) nilF)))) (tupF (consF (varF 11) (consF (varF 12) nilF))))) (asT (binF (eqT true) (callF 3 m_merged (consF (rawF 1) (consF (binF ixT (rawF 9) (conF (.int 0))) (consF (tupF nilF) nilF)))) (tupF (consF (binF ixT (varF 9) (conF (.int 0))) (consF (conF (.int 0)) nilF)))))) (retS (conF (.bool false))) nextS 2 (lpE m s fs A B la lb x4 x5 x6 x7 x8 (some (.p (tP (cutRows m (both A B))))) (some (.p (.int (lessOf m (both A B))))) none none none none none none none) [C, p, ln]
    = some (.nx, lpE m s fs A B la lb x4 x5 x6 x7 x8 (some (.p (tP (cutRows m (both A B))))) (some (.p (.int (lessOf m (both A B))))) none none none none none none none, [C, p, ln]) := by
  have e := r_merged [C, p, ln] m B A (.ft (A.map pairI)) h1 h2 rfl (fun _ => rfl) RB RA hB hA
  have sy := merge_sym (many := m) RA RB
  rw [sy.1] at e
  rw [sy.1] at sy
  rw [sy.2] at e
  have e2 := r_merged [C, p, ln] m A [] (.p (.tuple [])) h1 h2 rfl (fun _ => rfl) RA ⟨by simp, by simp, by simp, by simp⟩ hA (by simp; omega)
  have no := merge_none RA hA
  rw [no.2, no.1] at e2
  have q1 : ∀ S, eqT true (.p (.tuple [.tuple ((cutRows m (both A B)).map pairI), .int (lessOf m (both A B))])) (.p (.tuple [.tuple ((cutRows m (both A B)).map pairI), .int (lessOf m (both A B))])) S = some (.p (.bool false), S) := fun S => eq_same (b := true) rfl rfl (dk_pair (dk_rows (k := 57) _) (dk_int _))
  have q2 : ∀ S, eqT true (.p (.tuple [.tuple (A.map pairI), .int 0])) (.p (.tuple [.tuple (A.map pairI), .int 0])) S = some (.p (.bool false), S) := fun S => eq_same (b := true) rfl rfl (dk_pair (dk_rows (k := 57) _) (dk_int _))
  refine if_nx (S' := [C, p, ln]) ?_ rfl
  simp [dn_mix, tupT, allP, e, e2, q1, q2]
omit h1 h2 RB hA hB in
theorem lo11 (x11 x12 : Option T) : setS 13 (argF dictT (consF (argF listT (consF (binF ixT (varF 9) (conF (.int 0))) nilF)) nilF)) 2 (lpE m s fs A B la lb x4 x5 x6 x7 x8 x11 x12 none none none none none none none) [C, p, ln]
    = some (.nx, lpE m s fs A B la lb x4 x5 x6 x7 x8 x11 x12 (some (.loc 3)) none none none none none none, [C, p, ln, .dic (enc A)]) := by
  have q := dict_rows (fe := binF ixT (varF 9) (conF (.int 0))) (env := lpE m s fs A B la lb x4 x5 x6 x7 x8 x11 x12 none none none none none none none) (S := [C, p, ln]) (W := A) (rows_nd RA) (by simp [dn_mix])
  rw [s_set, q]
  simp [gcV, gcT, gcOb, putSlot, putLoc]
omit h1 h2 hA hB in
theorem lo12 (x11 x12 : D) (y4 y5 y6 y7 y8 : T) (hk : ∀ t ∈ [y4, y5, y6, y7, y8], below 4 t = true) : ∃ o14 o15 : Option D, forS (tupI (binF ixT (varF 10) (conF (.int 0)))) (tupG 2 (consG (nameG 14) (consG (nameG 15) nilG))) (dputS (varF 13) (varF 14) (binF addT (dgetxF (varF 13) (varF 14) (conF (.int 0))) (varF 15))) 2 (lpE m s fs A B la lb (some y4) (some y5) (some y6) (some y7) (some y8) (some (.p x11)) (some (.p x12)) (some (.loc 3)) none none none none none none) [C, p, ln, .dic (enc A)]
    = some (.nx, lpE m s fs A B la lb (some y4) (some y5) (some y6) (some y7) (some y8) (some (.p x11)) (some (.p x12)) (some (.loc 3)) o14 o15 none none none none, [C, p, ln, .dic (enc (both A B))]) := by
  have ks : ∀ t ∈ [y4, y5, y6, y7, y8], keepSlot 4 (some t) = some t := fun t ht => by simp [keepSlot, hk t ht]
  have k4 := ks y4 (by simp)
  have k5 := ks y5 (by simp)
  have k6 := ks y6 (by simp)
  have k7 := ks y7 (by simp)
  have k8 := ks y8 (by simp)
  have kf : ∀ xs : List D, keepSlot 4 (some (.ft xs)) = some (.ft xs) := fun _ => rfl
  obtain ⟨env', S', e1, rfl, o14, o15, rfl⟩ := loop_inv (gf := tupG 2 (consG (nameG 14) (consG (nameG 15) nilG))) (sb := dputS (varF 13) (varF 14) (binF addT (dgetxF (varF 13) (varF 14) (conF (.int 0))) (varF 15))) (n := gdTop 2 []) (m := 4) (gd := [])
    (fun i env S => S = [C, p, ln, .dic (enc (both A (B.take i)))] ∧ ∃ o14 o15 : Option D, env = lpE m s fs A B la lb (some y4) (some y5) (some y6) (some y7) (some y8) (some (.p x11)) (some (.p x12)) (some (.loc 3)) o14 o15 none none none none)
    (fun i env S _ => gd_nil) (B.map pairI) 0 (lpE m s fs A B la lb (some y4) (some y5) (some y6) (some y7) (some y8) (some (.p x11)) (some (.p x12)) (some (.loc 3)) none none none none none none) [C, p, ln, .dic (enc A)] ⟨rfl, none, none, rfl⟩ (fun i x env S hx ⟨e1, o14, o15, e2⟩ => by
      subst e1 e2
      rw [List.getElem?_map] at hx
      obtain ⟨q, hq, rfl⟩ := Option.map_eq_some_iff.mp hx
      have hl := both_len (B.take i) A
      rw [List.length_take] at hl
      have := RA.len
      have := RB.len
      have bs := both_step (A := A) hq
      rw [Nat.zero_add]
      generalize both A (B.take i) = M at bs hl
      have g := dgetx_run (fd := varF 13) (fi := varF 14) (env := lpE m s fs A B la lb (some y4) (some y5) (some y6) (some y7) (some y8) (some (.p x11)) (some (.p x12)) (some (.loc 3)) (some (.int q.1)) (some (.int q.2)) none none none none) (S := [C, p, ln, .dic (enc M)]) (S1 := [C, p, ln, .dic (enc M)]) (i := 3) (M := M) (f := q.1) (by simp) (dictOf_dic (by simp)) (by simp)
      have pt := s_dput2 (env := lpE m s fs A B la lb (some y4) (some y5) (some y6) (some y7) (some y8) (some (.p x11)) (some (.p x12)) (some (.loc 3)) (some (.int q.1)) (some (.int q.2)) none none none none) (M := 4) (d := .int (gt M q.1 + q.2)) (S := [C, p, ln, .dic (enc M)]) (i := 3) (kvs := enc M) rfl (key_int q.1) (by rw [enc_len, sizeLine_eq]; omega)
      rw [put_enc, ← bs] at pt
      refine ⟨lpE m s fs A B la lb (some y4) (some y5) (some y6) (some y7) (some y8) (some (.p x11)) (some (.p x12)) (some (.loc 3)) (some (.int q.1)) (some (.int q.2)) none none none none, [C, p, ln, .dic (enc M)], lpE m s fs A B la lb (some y4) (some y5) (some y6) (some y7) (some y8) (some (.p x11)) (some (.p x12)) (some (.loc 3)) (some (.int q.1)) (some (.int q.2)) none none none none, [C, p, ln, .dic (enc (both A (B.take (i + 1))))], ?_, ?_, rfl, some (.int q.1), some (.int q.2), ?_⟩
      · simp [pairI]
      · rw [s_dput, e_bin, g]
        simp at pt
        simp [pt]
      · simp [forget, k4, k5, k6, k7, k8, kf])
  refine ⟨o14, o15, ?_⟩
  have hi : tupI (binF ixT (varF 10) (conF (.int 0))) (lpE m s fs A B la lb (some y4) (some y5) (some y6) (some y7) (some y8) (some (.p x11)) (some (.p x12)) (some (.loc 3)) none none none none none none) [C, p, ln, .dic (enc A)] = some (B.map pairI, [], [C, p, ln, .dic (enc A)]) := by
    simp [dn_mix]
  have ht : B.take (0 + (B.map pairI).length) = B := List.take_of_length_le (by simp)
  rw [ht] at e1
  rw [s_for_run hi rfl e1]
  simp [forget, k4, k5, k6, k7, k8, kf]
end
section
variable (C p ln : O) (m s : Int) (h1 : 1 ≤ m) (h2 : m ≤ 20) (fs : List Int) (A B M : CL) (la lb : Int) (hM : nd M) (hl : M.length ≤ 100) (x4 x5 x6 x7 x8 : Option T) (o14 o15 : Option D)
include hM hl
theorem lo13 (x11 x12 : Option T) : setS 16 (revF (argF sortedT (consF (lockF 13 (lcF (keysI (varF 13)) (nameG 14) yesT (dgetF (varF 13) (varF 14)) [14])) nilF))) 2 (lpE m s fs A B la lb x4 x5 x6 x7 x8 x11 x12 (some (.loc 3)) o14 o15 none none none none) [C, p, ln, .dic (enc M)]
    = some (.nx, lpE m s fs A B la lb x4 x5 x6 x7 x8 x11 x12 (some (.loc 3)) o14 o15 (some (.loc 4)) none none none, [C, p, ln, .dic (enc M), .lst ((ranks M).map PyData.int)]) := by
  have q := lc_dict (env := lpE m s fs A B la lb x4 x5 x6 x7 x8 x11 x12 (some (.loc 3)) o14 o15 none none none none) (S := [C, p, ln, .dic (enc M)]) (M := M) (i := 13) (j := 3) (q := 14) (ft := yesT) (fe := dgetF (varF 13) (varF 14)) (fun _ => true) (fun y => .int y.2) rfl rfl (by omega) (fun y hy acc => by
    have g := dget_run (fd := varF 13) (fi := varF 14) (env := lpE m s fs A B la lb x4 x5 x6 x7 x8 x11 x12 (some (.loc 3)) (some (.int y.1)) o15 none none none none) (S := [C, p, ln, .lck (enc M), .lst acc]) (S1 := [C, p, ln, .lck (enc M), .lst acc]) (i := 3) (M := M) (f := y.1) (by simp) (dictOf_lck (by simp)) (by simp) (has_mem.mpr (List.mem_map_of_mem hy))
    rw [mem_gt hM hy] at g
    exact ⟨[], [], rfl, fun _ => g⟩)
  have em : (M.filter fun _ => true).map (fun y => PyData.int y.2) = (M.map (·.2)).map PyData.int := by rw [List.filter_eq_self.mpr (fun _ _ => rfl), List.map_map]; rfl
  rw [em] at q
  have st := sortD_ints (M.map (·.2))
  have q2 := e_sorted (S := [C, p, ln, .dic (enc M), .lst ((M.map (·.2)).map PyData.int)]) (i := 4) rfl st
  have er : ((sortI (M.map (·.2))).map PyData.int).reverse = (ranks M).map PyData.int := by unfold ranks; rw [List.map_reverse]
  simp only [List.cons_append, List.nil_append, List.length_cons, List.length_nil, Nat.zero_add, Nat.reduceAdd] at q q2
  rw [s_set]
  unfold revF
  rw [e_arg, e_cons, q]
  simp only [Option.bind_some, e_cons1, e_nil, Option.map_some, e_cons2, e_argK, q2]
  simp [-List.map_map, lstOf, gcV, gcT, gcOb, putSlot, putLoc]
  exact er
omit hM in
theorem lo14 (h0 : 0 ≤ m) (x11 x12 : Option T) : setS 17 (ifF (asT (binF gtI (argF lenT (consF (varF 16) nilF)) (varF 1))) (binF ixT (varF 16) (varF 1)) (conF (.int 0))) 2 (lpE m s fs A B la lb x4 x5 x6 x7 x8 x11 x12 (some (.loc 3)) o14 o15 (some (.loc 4)) none none none) [C, p, ln, .dic (enc M), .lst ((ranks M).map PyData.int)]
    = some (.nx, lpE m s fs A B la lb x4 x5 x6 x7 x8 x11 x12 (some (.loc 3)) o14 o15 (some (.loc 4)) (some (.p (.int (lessOf m M)))) none none, [C, p, ln, .dic (enc M), .lst ((ranks M).map PyData.int)]) := by
  unfold lessOf
  obtain ⟨n, hn⟩ := Int.eq_ofNat_of_zero_le h0
  by_cases hr : m < ((ranks M).length : Nat)
  · rw [if_pos hr]
    have hlt : n < (ranks M).length := by omega
    have ha : atI ((ranks M).map PyData.int) m = some (.int ((ranks M).getD m.toNat 0)) := by
      subst hn
      refine atI_nat ?_
      rw [List.getElem?_map, Int.toNat_natCast, List.getD_eq_getElem?_getD, List.getElem?_eq_getElem hlt]
      rfl
    simp [hr, ha]
  · rw [if_neg hr]
    have hr' : ((ranks M).length : Int) ≤ m := by omega
    simp [hr']
theorem lo15 (x16 x17' : Option T) : ifS (orT (asT (binF (eqT true) (varF 12) (varF 17))) (asT (binF (eqT true) (varF 11) (argF tupleT (consF (argF sortedT (consF (lockF 13 (lcF (keysI (varF 13)) (nameG 14) (asT (binF gtI (dgetF (varF 13) (varF 14)) (varF 12))) (tupF (consF (varF 14) (consF (binF subI (dgetF (varF 13) (varF 14)) (varF 12)) nilF))) [14])) nilF)) nilF))))) (retS (conF (.bool false))) nextS 2 (lpE m s fs A B la lb x4 x5 x6 x7 x8 (some (.p (tP (cutRows m M)))) (some (.p (.int (lessOf m M)))) (some (.loc 3)) o14 o15 (some (.loc 4)) (some (.p (.int (lessOf m M)))) none none) [C, p, ln, .dic (enc M), .lst ((ranks M).map PyData.int)]
    = some (.nx, lpE m s fs A B la lb x4 x5 x6 x7 x8 (some (.p (tP (cutRows m M)))) (some (.p (.int (lessOf m M)))) (some (.loc 3)) o14 o15 (some (.loc 4)) (some (.p (.int (lessOf m M)))) none none, [C, p, ln, .dic (enc M), .lst ((ranks M).map PyData.int)]) := by
  generalize hle : lessOf m M = less
  have hcr : cutRows m M = sortP (cutTo less M) := by unfold cutRows; rw [hle]
  rw [hcr]
  have q := lc_dict (env := lpE m s fs A B la lb x4 x5 x6 x7 x8 (some (.p (tP (sortP (cutTo less M))))) (some (.p (.int less))) (some (.loc 3)) o14 o15 (some (.loc 4)) (some (.p (.int less))) none none) (S := [C, p, ln, .dic (enc M), .lst ((ranks M).map PyData.int)]) (M := M) (i := 13) (j := 3) (q := 14) (ft := asT (binF gtI (dgetF (varF 13) (varF 14)) (varF 12))) (fe := tupF (consF (varF 14) (consF (binF subI (dgetF (varF 13) (varF 14)) (varF 12)) nilF))) (fun y => decide (less < y.2)) (fun y => pairI (y.1, y.2 - less)) rfl rfl (by omega) (fun y hy acc => by
    have g := dget_run (fd := varF 13) (fi := varF 14) (env := lpE m s fs A B la lb x4 x5 x6 x7 x8 (some (.p (tP (sortP (cutTo less M))))) (some (.p (.int less))) (some (.loc 3)) (some (.int y.1)) o15 (some (.loc 4)) (some (.p (.int less))) none none) (S := [C, p, ln, .lck (enc M), .lst ((ranks M).map PyData.int), .lst acc]) (S1 := [C, p, ln, .lck (enc M), .lst ((ranks M).map PyData.int), .lst acc]) (i := 3) (M := M) (f := y.1) (by simp) (dictOf_lck (by simp)) (by simp) (has_mem.mpr (List.mem_map_of_mem hy))
    rw [mem_gt hM hy] at g
    refine ⟨[], [], ?_, fun _ => ?_⟩
    · show asT (binF gtI (dgetF (varF 13) (varF 14)) (varF 12)) (lpE m s fs A B la lb x4 x5 x6 x7 x8 (some (.p (tP (sortP (cutTo less M))))) (some (.p (.int less))) (some (.loc 3)) (some (.int y.1)) o15 (some (.loc 4)) (some (.p (.int less))) none none) [C, p, ln, .lck (enc M), .lst ((ranks M).map PyData.int), .lst acc] = _
      rw [e_as, e_bin, g]
      simp
    · show tupF (consF (varF 14) (consF (binF subI (dgetF (varF 13) (varF 14)) (varF 12)) nilF)) (lpE m s fs A B la lb x4 x5 x6 x7 x8 (some (.p (tP (sortP (cutTo less M))))) (some (.p (.int less))) (some (.loc 3)) (some (.int y.1)) o15 (some (.loc 4)) (some (.p (.int less))) none none) [C, p, ln, .lck (enc M), .lst ((ranks M).map PyData.int), .lst acc] = _
      rw [e_tup, e_cons, e_var]
      show (Option.bind (Option.bind (varK _ (some (some (T.p (.int y.1))))) _) _) = _
      rw [e_varK, dn_p, Option.bind_some, e_cons1, e_cons, e_bin, g]
      simp [tupT, allP, pairI])
  have em : (M.filter fun y => decide (less < y.2)).map (fun y => pairI (y.1, y.2 - less)) = (cutTo less M).map pairI := by unfold cutTo; rw [List.map_map]; rfl
  rw [em] at q
  have st := sortD_pairs' (cutTo less M)
  have q2 := e_sorted (S := [C, p, ln, .dic (enc M), .lst ((ranks M).map PyData.int), .lst ((cutTo less M).map pairI)]) (i := 5) rfl st
  have q3 := e_tuple (S := [C, p, ln, .dic (enc M), .lst ((ranks M).map PyData.int), .lst ((cutTo less M).map pairI), .lst ((sortP (cutTo less M)).map pairI)]) (i := 6) rfl
  have q4 : ∀ S, eqT true (.p (tP (sortP (cutTo less M)))) (.p (.tuple ((sortP (cutTo less M)).map pairI))) S = some (.p (.bool false), S) := fun S => eq_same (b := true) rfl rfl (dk_rows (k := 58) _)
  simp only [List.cons_append, List.nil_append, List.length_cons, List.length_nil, Nat.zero_add, Nat.reduceAdd] at q q2 q3
  refine if_nx (S' := [C, p, ln, .dic (enc M), .lst ((ranks M).map PyData.int), .lst ((cutTo less M).map pairI), .lst ((sortP (cutTo less M)).map pairI)]) ?_ rfl
  rw [e_orT, show asT (binF (eqT true) (varF 12) (varF 17)) (lpE m s fs A B la lb x4 x5 x6 x7 x8 (some (.p (tP (sortP (cutTo less M))))) (some (.p (.int less))) (some (.loc 3)) o14 o15 (some (.loc 4)) (some (.p (.int less))) none none) [C, p, ln, .dic (enc M), .lst ((ranks M).map PyData.int)] = some (false, [C, p, ln, .dic (enc M), .lst ((ranks M).map PyData.int)]) by simp, Option.bind_some, e_orT0 rfl, e_as, e_bin, e_var]
  show (Option.bind (Option.bind (varK _ (some (some (T.p (tP (sortP (cutTo less M))))))) _) _) = _
  rw [e_varK, dn_p, Option.bind_some, e_bin1, e_arg, e_cons, e_arg, e_cons, q]
  simp only [Option.bind_some, e_cons1, e_nil, Option.map_some, e_cons2, e_argK, q2, q3, e_bin2, q4]
  rfl
end
end G66
set_option maxHeartbeats 1000000
/-! P66at: the run of lots, its end; lots whole. -/
namespace G66
open PySem PySem.Spec PyProof.Rows L2 Pv
section
variable (C p ln la' lb' : O) (m s : Int) (fs : List Int) (A B W : CL) (la lb less : Int) (x4 x5 x6 x7 x8 : Option T) (o14 o15 : Option D) (x16 x17 : Option T)
theorem lo16 : setS 18 (binF addT (binF addT (binF ixT (varF 9) (conF (.int 1))) (binF ixT (varF 10) (conF (.int 1)))) (varF 12)) 2 (lpE m s fs A B la lb x4 x5 x6 x7 x8 (some (.p (tP W))) (some (.p (.int less))) (some (.loc 3)) o14 o15 x16 x17 none none) [C, p, ln, la', lb']
    = some (.nx, lpE m s fs A B la lb x4 x5 x6 x7 x8 (some (.p (tP W))) (some (.p (.int less))) (some (.loc 3)) o14 o15 x16 x17 (some (.p (.int (la + lb + less)))) none, [C, p, ln, la', lb']) := by
  simp [dn_mix]
theorem lo17 (h1 : 1 ≤ m) (h2 : m ≤ 20) (g1 : (la + lb + less) * (m + 1) ≤ fs.length) (g2 : (W.length : Int) ≤ m) : ifS (orT (asT (binF gtI (binF mulI (varF 18) (binF addT (varF 1) (conF (.int 1)))) (argF lenT (consF (varF 3) nilF)))) (asT (binF gtI (argF lenT (consF (varF 11) nilF)) (varF 1)))) (retS (conF (.bool false))) nextS 2 (lpE m s fs A B la lb x4 x5 x6 x7 x8 (some (.p (tP W))) (some (.p (.int less))) (some (.loc 3)) o14 o15 x16 x17 (some (.p (.int (la + lb + less)))) none) [C, p, ln, la', lb']
    = some (.nx, lpE m s fs A B la lb x4 x5 x6 x7 x8 (some (.p (tP W))) (some (.p (.int less))) (some (.loc 3)) o14 o15 x16 x17 (some (.p (.int (la + lb + less)))) none, [C, p, ln, la', lb']) := by
  have cm : CMul (la + lb + less) (m + 1) := cmul_r (by omega) (by omega)
  refine if_nx (S' := [C, p, ln, la', lb']) ?_ rfl
  simp [cm, g1, g2]
theorem lo18 (hn : nd W) (x18 : Option T) : setS 19 (argF dictT (consF (argF listT (consF (varF 11) nilF)) nilF)) 2 (lpE m s fs A B la lb x4 x5 x6 x7 x8 (some (.p (tP W))) (some (.p (.int less))) (some (.loc 3)) o14 o15 x16 x17 x18 none) [C, p, ln, la', lb']
    = some (.nx, lpE m s fs A B la lb x4 x5 x6 x7 x8 (some (.p (tP W))) (some (.p (.int less))) (some (.loc 3)) o14 o15 x16 x17 x18 (some (.loc 5)), [C, p, ln, la', lb', .dic (enc W)]) := by
  have q := dict_rows (fe := varF 11) (env := lpE m s fs A B la lb x4 x5 x6 x7 x8 (some (.p (tP W))) (some (.p (.int less))) (some (.loc 3)) o14 o15 x16 x17 x18 none) (S := [C, p, ln, la', lb']) (W := W) hn (by simp)
  rw [s_set, q]
  simp [gcV, gcT, gcOb, putSlot, putLoc]
theorem ints_of : ∀ ns : List Int, intsOf (ns.map PyData.int) = some ns := intsOf_map
theorem lo19 (sN : Nat) (hs : (sN : Int) = s) (hs2 : sN ≤ 30) (lost : Int) (hg : ∀ f, (fs.count f : Int) - lost ≤ gt W f ∧ gt W f ≤ fs.count f) :
    ∃ S', retS (argF (allT false) (consF (lcF (range1I (consF (varF 2) nilF)) (nameG 14) yesT (chainF leI leI (binF subI (cntF 3 (varF 14)) (varF 18)) (dgetxF (varF 19) (varF 14) (conF (.int 0))) (cntF 3 (varF 14))) [14]) nilF)) 2 (lpE m s fs A B la lb x4 x5 x6 x7 x8 (some (.p (tP W))) (some (.p (.int less))) (some (.loc 3)) o14 o15 x16 x17 (some (.p (.int lost))) (some (.loc 5))) [C, p, ln, la', lb', .dic (enc W)]
    = some (.rt (.p (.bool true)), lpE m s fs A B la lb x4 x5 x6 x7 x8 (some (.p (tP W))) (some (.p (.int less))) (some (.loc 3)) o14 o15 x16 x17 (some (.p (.int lost))) (some (.loc 5)), [C, p, ln, la', lb', .dic (enc W)] ++ S') := by
  have hi : range1I (consF (varF 2) nilF) (lpE m s fs A B la lb x4 x5 x6 x7 x8 (some (.p (tP W))) (some (.p (.int less))) (some (.loc 3)) o14 o15 x16 x17 (some (.p (.int lost))) (some (.loc 5))) [C, p, ln, la', lb', .dic (enc W)] = some (((List.range sN).map fun i : Nat => 0 + (i : Int)).map PyData.int, [], [C, p, ln, la', lb', .dic (enc W)]) := by
    have := i_range1 (c := sN) (fA := consF (varF 2) nilF) (env := lpE m s fs A B la lb x4 x5 x6 x7 x8 (some (.p (tP W))) (some (.p (.int less))) (some (.loc 3)) o14 o15 x16 x17 (some (.p (.int lost))) (some (.loc 5))) (S := [C, p, ln, la', lb', .dic (enc W)]) (S' := [C, p, ln, la', lb', .dic (enc W)]) (by rw [hs]; simp) (by omega)
    rw [this]
    congr 2
    unfold rangeL
    rw [List.map_map]; rfl
  have q := lcF_typ (itf := range1I (consF (varF 2) nilF)) (gf := nameG 14) (ft := yesT) (fe := chainF leI leI (binF subI (cntF 3 (varF 14)) (varF 18)) (dgetxF (varF 19) (varF 14) (conF (.int 0))) (cntF 3 (varF 14))) (vs := [14]) (env := lpE m s fs A B la lb x4 x5 x6 x7 x8 (some (.p (tP W))) (some (.p (.int less))) (some (.loc 3)) o14 o15 x16 x17 (some (.p (.int lost))) (some (.loc 5))) PyData.int (fun _ => true) (fun _ => .bool true) ((List.range sN).map fun i : Nat => 0 + (i : Int)) hi gd_nil (by simp; omega) (fun y hy acc => by
    have c : cntF 3 (varF 14) (lpE m s fs A B la lb x4 x5 x6 x7 x8 (some (.p (tP W))) (some (.p (.int less))) (some (.loc 3)) (some (.int y)) o15 x16 x17 (some (.p (.int lost))) (some (.loc 5))) [C, p, ln, la', lb', .dic (enc W), .lst acc] = some (.p (.int (fs.count y : Nat)), [C, p, ln, la', lb', .dic (enc W), .lst acc]) := by
      simp [cntF, ints_of]
    have g := dgetx_run (fd := varF 19) (fi := varF 14) (env := lpE m s fs A B la lb x4 x5 x6 x7 x8 (some (.p (tP W))) (some (.p (.int less))) (some (.loc 3)) (some (.int y)) o15 x16 x17 (some (.p (.int lost))) (some (.loc 5))) (S := [C, p, ln, la', lb', .dic (enc W), .lst acc]) (S1 := [C, p, ln, la', lb', .dic (enc W), .lst acc]) (i := 5) (M := W) (f := y) (by simp) (dictOf_dic (by simp)) (by simp)
    have h := hg y
    refine ⟨lpE m s fs A B la lb x4 x5 x6 x7 x8 (some (.p (tP W))) (some (.p (.int less))) (some (.loc 3)) (some (.int y)) o15 x16 x17 (some (.p (.int lost))) (some (.loc 5)), [], [], by simp [wipeE], rfl, fun _ => ?_⟩
    show chainF leI leI (binF subI (cntF 3 (varF 14)) (varF 18)) (dgetxF (varF 19) (varF 14) (conF (.int 0))) (cntF 3 (varF 14)) (lpE m s fs A B la lb x4 x5 x6 x7 x8 (some (.p (tP W))) (some (.p (.int less))) (some (.loc 3)) (some (.int y)) o15 x16 x17 (some (.p (.int lost))) (some (.loc 5))) [C, p, ln, la', lb', .dic (enc W), .lst acc] = _
    rw [e_chain, e_bin, c, Option.bind_some, e_bin1, e_var]
    show (Option.bind (Option.bind (varK _ (some (some (T.p (.int lost))))) _) _) = _
    rw [e_varK, dn_p, Option.bind_some, e_bin2, e_sub, Option.bind_some, e_ch0, g, Option.bind_some, e_ch1, e_le, decide_eq_true h.1, Option.bind_some, e_ch2 rfl, c, Option.bind_some, e_ch3, e_le, decide_eq_true h.2]
    rfl)
  have em : (((List.range sN).map fun i : Nat => 0 + (i : Int)).filter fun _ => true).map (fun _ => PyData.bool true) = (List.replicate sN true).map PyData.bool := by
    rw [const_map, List.map_replicate, List.length_map, List.length_range]
  rw [em] at q
  have q2 := e_allL (b := false) (S := [C, p, ln, la', lb', .dic (enc W), .lst ((List.replicate sN true).map PyData.bool)]) (i := 6) (bs := List.replicate sN true) rfl
  rw [if_neg Bool.false_ne_true, all_true] at q2
  refine ⟨[.lst ((List.replicate sN true).map PyData.bool)], ret_go ?_⟩
  rw [e_arg, e_cons, q]
  simp only [List.length_cons, List.length_nil, List.cons_append, List.nil_append, Option.bind_some, e_cons1, e_nil, Option.map_some, e_cons2, e_argK]
  exact q2
end
theorem r_lots {k : Int} {C p : O} (h : PotOk k p) (hk : k ≤ 600000) (m : Int) (h1 : 1 ≤ m) (h2 : m ≤ 20) : ∃ p', m__law_are_lots_right [.loc 1, .p (.int m)] [C, p] = some (.p (.bool true), [C, p']) ∧ PotOk (k + 300) p' := by
  obtain ⟨p1, s, hp1, s1, s2, b1⟩ := lo1 (C := C) h (by omega) m
  obtain ⟨sN, hs⟩ := Int.eq_ofNat_of_zero_le (show 0 ≤ s by omega)
  replace hs : (sN : Int) = s := hs.symm
  obtain ⟨p2, fs, hp2, hl, hf, b2⟩ := lo2 (C := C) hp1 (by omega) m s s1 s2
  have F : Fl fs := ⟨by omega, fun f h => by have := hf f h; omega⟩
  obtain ⟨p3, ns, hp3, N, b3⟩ := lo3 (C := C) hp2 (by omega) m s sN hs s2 (.ft (fs.map PyData.int))
  have b4 := lo4 C p3 m s sN hs ns fs N hl hf
  have Ff : Fl (fs.map (nm ns)) := ⟨by rw [List.length_map]; omega, fun f h => by
    obtain ⟨g, hg, rfl⟩ := List.mem_map.mp h
    exact N.rg _ (nm_at N (hf g hg).1 (by have := (hf g hg).2; omega)).2⟩
  have b5 := lo5 C p3 m s h1 h2 fs F (.lst (ns.map PyData.int)) (fs.map (nm ns)) Ff
  have b6 := lo6 C p3 m s h1 h2 ns fs sN hs N F hf
  obtain ⟨p4, c, hp4, hc, b7⟩ := lo7 (C := C) hp3 (by omega) m s fs hl (some (.loc 2)) (some (.p (tI (fs.map (nm ns))))) (some (mx (rws m fs) (mg m fs).2)) (some (mx (rws m (fs.map (nm ns))) (mg m (fs.map (nm ns))).2)) [.lst (ns.map PyData.int)]
  have b8 := lo8 C p4 m s h1 h2 fs F c hc (some (.loc 2)) (some (.p (tI (fs.map (nm ns))))) (some (mx (rws m fs) (mg m fs).2)) (some (mx (rws m (fs.map (nm ns))) (mg m (fs.map (nm ns))).2)) (.lst (ns.map PyData.int))
  have Fa : Fl (fs.take c) := ⟨by rw [List.length_take]; omega, fun f h => F.rg f (List.mem_of_mem_take h)⟩
  have Fb : Fl (fs.drop c) := ⟨by rw [List.length_drop]; omega, fun f h => F.rg f (List.mem_of_mem_drop h)⟩
  have RA : Rows (rws m (fs.take c)) := rows_of (by omega) h2 Fa.len Fa.rg
  have RB : Rows (rws m (fs.drop c)) := rows_of (by omega) h2 Fb.len Fb.rg
  have lA := rws_len h1 h2 (fs.take c)
  have lB := rws_len h1 h2 (fs.drop c)
  have ok := lots_ok (show 0 ≤ m by omega) h2 (fs.take c) (fs.drop c) (by rw [List.take_append_drop]; exact F.len) (by rw [List.take_append_drop]; exact F.rg)
  rw [List.take_append_drop] at ok
  have b9 := lo9 C p4 (.lst (ns.map PyData.int)) m s h1 h2 fs (rws m (fs.take c)) (rws m (fs.drop c)) (mg m (fs.take c)).2 (mg m (fs.drop c)).2 RA RB lA.2 lB.2 (some (.loc 2)) (some (.p (tI (fs.map (nm ns))))) (some (mx (rws m fs) (mg m fs).2)) (some (mx (rws m (fs.map (nm ns))) (mg m (fs.map (nm ns))).2)) (some (.p (.int (c : Int))))
  have b10 := lo10 C p4 (.lst (ns.map PyData.int)) m s h1 h2 fs (rws m (fs.take c)) (rws m (fs.drop c)) (mg m (fs.take c)).2 (mg m (fs.drop c)).2 RA RB lA.2 lB.2 (some (.loc 2)) (some (.p (tI (fs.map (nm ns))))) (some (mx (rws m fs) (mg m fs).2)) (some (mx (rws m (fs.map (nm ns))) (mg m (fs.map (nm ns))).2)) (some (.p (.int (c : Int))))
  have b11 := lo11 C p4 (.lst (ns.map PyData.int)) m s fs (rws m (fs.take c)) (rws m (fs.drop c)) (mg m (fs.take c)).2 (mg m (fs.drop c)).2 RA (some (.loc 2)) (some (.p (tI (fs.map (nm ns))))) (some (mx (rws m fs) (mg m fs).2)) (some (mx (rws m (fs.map (nm ns))) (mg m (fs.map (nm ns))).2)) (some (.p (.int (c : Int)))) (some (.p (tP (cutRows m (both (rws m (fs.take c)) (rws m (fs.drop c))))))) (some (.p (.int (lessOf m (both (rws m (fs.take c)) (rws m (fs.drop c)))))))
  obtain ⟨o14, o15, b12⟩ := lo12 C p4 (.lst (ns.map PyData.int)) m s fs (rws m (fs.take c)) (rws m (fs.drop c)) (mg m (fs.take c)).2 (mg m (fs.drop c)).2 RA RB (tP (cutRows m (both (rws m (fs.take c)) (rws m (fs.drop c))))) (.int (lessOf m (both (rws m (fs.take c)) (rws m (fs.drop c))))) (.loc 2) (.p (tI (fs.map (nm ns)))) (mx (rws m fs) (mg m fs).2) (mx (rws m (fs.map (nm ns))) (mg m (fs.map (nm ns))).2) (.p (.int (c : Int))) (by simp [below, belows])
  have nB := both_nd (rws m (fs.drop c)) (rws m (fs.take c)) (rows_nd RA)
  have lBB := both_len (rws m (fs.drop c)) (rws m (fs.take c))
  have b13 := lo13 C p4 (.lst (ns.map PyData.int)) m s fs (rws m (fs.take c)) (rws m (fs.drop c)) (both (rws m (fs.take c)) (rws m (fs.drop c))) (mg m (fs.take c)).2 (mg m (fs.drop c)).2 nB (by omega) (some (.loc 2)) (some (.p (tI (fs.map (nm ns))))) (some (mx (rws m fs) (mg m fs).2)) (some (mx (rws m (fs.map (nm ns))) (mg m (fs.map (nm ns))).2)) (some (.p (.int (c : Int)))) o14 o15 (some (.p (tP (cutRows m (both (rws m (fs.take c)) (rws m (fs.drop c))))))) (some (.p (.int (lessOf m (both (rws m (fs.take c)) (rws m (fs.drop c)))))))
  have b14 := lo14 C p4 (.lst (ns.map PyData.int)) m s fs (rws m (fs.take c)) (rws m (fs.drop c)) (both (rws m (fs.take c)) (rws m (fs.drop c))) (mg m (fs.take c)).2 (mg m (fs.drop c)).2 (by omega) (some (.loc 2)) (some (.p (tI (fs.map (nm ns))))) (some (mx (rws m fs) (mg m fs).2)) (some (mx (rws m (fs.map (nm ns))) (mg m (fs.map (nm ns))).2)) (some (.p (.int (c : Int)))) o14 o15 (by omega) (some (.p (tP (cutRows m (both (rws m (fs.take c)) (rws m (fs.drop c))))))) (some (.p (.int (lessOf m (both (rws m (fs.take c)) (rws m (fs.drop c)))))))
  have b15 := lo15 C p4 (.lst (ns.map PyData.int)) m s fs (rws m (fs.take c)) (rws m (fs.drop c)) (both (rws m (fs.take c)) (rws m (fs.drop c))) (mg m (fs.take c)).2 (mg m (fs.drop c)).2 nB (by omega) (some (.loc 2)) (some (.p (tI (fs.map (nm ns))))) (some (mx (rws m fs) (mg m fs).2)) (some (mx (rws m (fs.map (nm ns))) (mg m (fs.map (nm ns))).2)) (some (.p (.int (c : Int)))) o14 o15 none none
  have b16 := lo16 C p4 (.lst (ns.map PyData.int)) (.dic (enc (both (rws m (fs.take c)) (rws m (fs.drop c))))) (.lst ((ranks (both (rws m (fs.take c)) (rws m (fs.drop c)))).map PyData.int)) m s fs (rws m (fs.take c)) (rws m (fs.drop c)) (cutRows m (both (rws m (fs.take c)) (rws m (fs.drop c)))) (mg m (fs.take c)).2 (mg m (fs.drop c)).2 (lessOf m (both (rws m (fs.take c)) (rws m (fs.drop c)))) (some (.loc 2)) (some (.p (tI (fs.map (nm ns))))) (some (mx (rws m fs) (mg m fs).2)) (some (mx (rws m (fs.map (nm ns))) (mg m (fs.map (nm ns))).2)) (some (.p (.int (c : Int)))) o14 o15 (some (.loc 4)) (some (.p (.int (lessOf m (both (rws m (fs.take c)) (rws m (fs.drop c)))))))
  have b17 := lo17 C p4 (.lst (ns.map PyData.int)) (.dic (enc (both (rws m (fs.take c)) (rws m (fs.drop c))))) (.lst ((ranks (both (rws m (fs.take c)) (rws m (fs.drop c)))).map PyData.int)) m s fs (rws m (fs.take c)) (rws m (fs.drop c)) (cutRows m (both (rws m (fs.take c)) (rws m (fs.drop c)))) (mg m (fs.take c)).2 (mg m (fs.drop c)).2 (lessOf m (both (rws m (fs.take c)) (rws m (fs.drop c)))) (some (.loc 2)) (some (.p (tI (fs.map (nm ns))))) (some (mx (rws m fs) (mg m fs).2)) (some (mx (rws m (fs.map (nm ns))) (mg m (fs.map (nm ns))).2)) (some (.p (.int (c : Int)))) o14 o15 (some (.loc 4)) (some (.p (.int (lessOf m (both (rws m (fs.take c)) (rws m (fs.drop c))))))) h1 h2 ok.1 ok.2.1
  have hWn : nd (cutRows m (both (rws m (fs.take c)) (rws m (fs.drop c)))) := nd_perm (sortP_perm _).symm (cut_nd nB)
  have b18 := lo18 C p4 (.lst (ns.map PyData.int)) (.dic (enc (both (rws m (fs.take c)) (rws m (fs.drop c))))) (.lst ((ranks (both (rws m (fs.take c)) (rws m (fs.drop c)))).map PyData.int)) m s fs (rws m (fs.take c)) (rws m (fs.drop c)) (cutRows m (both (rws m (fs.take c)) (rws m (fs.drop c)))) (mg m (fs.take c)).2 (mg m (fs.drop c)).2 (lessOf m (both (rws m (fs.take c)) (rws m (fs.drop c)))) (some (.loc 2)) (some (.p (tI (fs.map (nm ns))))) (some (mx (rws m fs) (mg m fs).2)) (some (mx (rws m (fs.map (nm ns))) (mg m (fs.map (nm ns))).2)) (some (.p (.int (c : Int)))) o14 o15 (some (.loc 4)) (some (.p (.int (lessOf m (both (rws m (fs.take c)) (rws m (fs.drop c))))))) hWn (some (.p (.int ((mg m (fs.take c)).2 + (mg m (fs.drop c)).2 + lessOf m (both (rws m (fs.take c)) (rws m (fs.drop c)))))))
  obtain ⟨S', b19⟩ := lo19 C p4 (.lst (ns.map PyData.int)) (.dic (enc (both (rws m (fs.take c)) (rws m (fs.drop c))))) (.lst ((ranks (both (rws m (fs.take c)) (rws m (fs.drop c)))).map PyData.int)) m s fs (rws m (fs.take c)) (rws m (fs.drop c)) (cutRows m (both (rws m (fs.take c)) (rws m (fs.drop c)))) (mg m (fs.take c)).2 (mg m (fs.drop c)).2 (lessOf m (both (rws m (fs.take c)) (rws m (fs.drop c)))) (some (.loc 2)) (some (.p (tI (fs.map (nm ns))))) (some (mx (rws m fs) (mg m fs).2)) (some (mx (rws m (fs.map (nm ns))) (mg m (fs.map (nm ns))).2)) (some (.p (.int (c : Int)))) o14 o15 (some (.loc 4)) (some (.p (.int (lessOf m (both (rws m (fs.take c)) (rws m (fs.drop c))))))) sN hs (by omega) ((mg m (fs.take c)).2 + (mg m (fs.drop c)).2 + lessOf m (both (rws m (fs.take c)) (rws m (fs.drop c)))) ok.2.2
  refine ⟨p4, m_ret (show seqS _ (seqS _ (seqS _ (seqS _ (seqS _ (seqS _ (seqS _ (seqS _ (seqS _ (seqS _ (seqS _ (seqS _ (seqS _ (seqS _ (seqS _ (seqS _ (seqS _ (seqS _ _))))))))))))))))) _ _ _ = _ from seq_go b1 (seq_go b2 (seq_go b3 (seq_go b4 (seq_go b5 (seq_go b6 (seq_go b7 (seq_go b8 (seq_go b9 (seq_go b10 (seq_go b11 (seq_go b12 (seq_go b13 (seq_go b14 (seq_go b15 (seq_go b16 (seq_go b17 (seq_go b18 b19)))))))))))))))))) (by simp), hp4.mono (by omega)⟩
end G66
set_option maxHeartbeats 1000000
/-! P66au: law itself. -/
namespace G66
open PySem PySem.Spec PyProof.Rows L2 Pv
@[simp] theorem keepR {M : Nat} (xs : List D) : keepSlot M (some (.ro xs)) = some (.ro xs) := rfl
abbrev laE (ns : List Int) (o1 : Option D) (x2 : Option T) (o3 o4 : Option D) : Pv.Env := [some (.ro (ns.map PyData.int)), o1.map T.p, x2, o3.map T.p, o4.map T.p]
noncomputable def lapB : SF := seqS (setS 4 (binF addT (conF (.int 1)) (argF intT (consF (callF 2 m__law_take (consF (varF 2) (consF (callF 2 m__law_of (consF (varF 2) (consF (lstF (consF (conF (.int 3)) (consF (conF (.int 20)) nilF))) nilF))) nilF))) nilF)))) (seqS (ifS (orT (notT (asT (callF 2 m__law_are_turns_right (consF (varF 2) (consF (varF 4) nilF))))) (notT (asT (callF 2 m__law_are_blocks_right (consF (varF 2) (consF (varF 4) nilF)))))) (retS (conF (.bool false))) nextS) (ifS (notT (asT (callF 2 m__law_are_lots_right (consF (varF 2) (consF (varF 4) nilF))))) (retS (conF (.bool false))) nextS))
theorem lap_ok {k : Int} {C p : O} (h : PotOk k p) (hk : k ≤ 500000) (ns : List Int) (o1 o3 o4 : Option D) (n : Nat) : ∃ (p' : O) (m : Int), PotOk (k + 600) p' ∧ lapB n (laE ns o1 (some (.loc 1)) o3 o4) [C, p] = some (.nx, laE ns o1 (some (.loc 1)) o3 (some (.int m)), [C, p']) := by
  obtain ⟨p1, u, e1, hp1, hu⟩ := p_of (C := C) (R := []) (x := 3) (y := 20) h (by omega)
  obtain ⟨p2, d, e2, hp2, h2, h3⟩ := p_take (C := C) (R := [.lst [.int 3, .int 20]]) (u := u) hp1 (by omega) (by omega) (by omega)
  obtain ⟨p3, e3, hp3⟩ := r_turns (C := C) hp2 (by omega) (1 + d) (by omega) (by omega)
  obtain ⟨p4, e4, hp4⟩ := r_blocks (C := C) hp3 (by omega) (1 + d) (by omega) (by omega)
  obtain ⟨p5, e5, hp5⟩ := r_lots (C := C) hp4 (by omega) (1 + d) (by omega) (by omega)
  refine ⟨p5, 1 + d, hp5.mono (by omega), ?_⟩
  simp at e1 e2
  refine seq_go (env' := laE ns o1 (some (.loc 1)) o3 (some (.int (1 + d)))) (S' := [C, p2]) ?_ (seq_go (env' := laE ns o1 (some (.loc 1)) o3 (some (.int (1 + d)))) (S' := [C, p4]) ?_ ?_)
  · simp [allP, e1, e2]
  · exact if_nx (S' := [C, p4]) (by simp [e3, e4]) rfl
  · exact if_nx (S' := [C, p5]) (by simp [e5]) rfl
noncomputable def placeB : SF := seqS (setS 2 (callF 2 m__law_pot (consF (varF 0) (consF (varF 1) nilF)))) (forS (range1I (consF (conF (.int 2)) nilF)) (nameG 3) lapB)
theorem place_ok (C : O) (ns : List Int) (i : Nat) (hi : i ≤ 10) (o3 o4 : Option D) (n : Nat) : ∃ (p : O) (o3' o4' : Option D), placeB n (laE ns (some (.int (i : Int))) none o3 o4) [C] = some (.nx, laE ns (some (.int (i : Int))) (some (.loc 1)) o3' o4', [C, p]) := by
  obtain ⟨p, e, hp⟩ := r_pot [C] ns i hi
  obtain ⟨env', S', e1, p', o3', o4', rfl, rfl, hp'⟩ := loop_inv (gf := nameG 3) (sb := lapB) (n := gdTop n []) (m := 2) (gd := [])
    (fun j env S => ∃ (p' : O) (o3 o4 : Option D), S = [C, p'] ∧ env = laE ns (some (.int (i : Int))) (some (.loc 1)) o3 o4 ∧ PotOk (600 * (if j < 100 then (j : Int) else 100)) p')
    (fun _ _ _ _ => gd_nil) (rangeL 0 2) 0 (laE ns (some (.int (i : Int))) (some (.loc 1)) o3 o4) [C, p] ⟨p, o3, o4, rfl, rfl, by simpa using hp⟩ (fun j x env S hx ⟨p1, o3, o4, e1, e2, h1⟩ => by
      subst e1 e2
      obtain ⟨rfl, hj⟩ := rangeL_at hx
      obtain ⟨p2, m, h2, e3⟩ := lap_ok (C := C) h1 (by split <;> omega) ns (some (.int (i : Int))) (some (.int (0 + (j : Int)))) o4 (gdTop n [])
      refine ⟨_, _, _, _, g_name, e3, p2, some (.int (0 + (j : Int))), some (.int m), rfl, ?_, ?_⟩
      · simp [forget, keepSlot, below]
      · refine h2.mono ?_
        rw [if_pos (by omega), if_pos (by omega)]
        omega)
  refine ⟨p', o3', o4', seq_go (env' := laE ns (some (.int (i : Int))) (some (.loc 1)) o3 o4) (S' := [C, p]) ?_ ?_⟩
  · simp at e
    simp [e, gcV, gcT, gcOb, putSlot, putLoc]
  · have hr : range1I (consF (conF (.int 2)) nilF) (laE ns (some (.int (i : Int))) (some (.loc 1)) o3 o4) [C, p] = some (rangeL 0 2, [], [C, p]) := i_range1 (c := 2) (by simp) (by decide)
    rw [s_for_run hr rfl e1]
    simp [forget]
theorem law_ok (ns : List Int) : m_law [.ro (ns.map PyData.int)] [] = some (.p (.bool true), []) := by
  have hc := r_cells [] ns
  have hcl : cellsN ns ≤ 3 := by unfold cellsN; omega
  generalize cellsN ns = c at hc hcl
  have hgd : GdOk [(0, O.lst (rgD 0 (c : Int)))] [O.lst (rgD 0 (c : Int))] := fun p hp => by
    have : p = (0, O.lst (rgD 0 (c : Int))) := by simpa using hp
    subst this; rfl
  obtain ⟨env', S', e1, o1, o3, o4, rfl, rfl⟩ := loop_inv (gf := nameG 1) (sb := placeB) (n := gdTop 0 [(0, O.lst (rgD 0 (c : Int)))]) (m := 1) (gd := [(0, O.lst (rgD 0 (c : Int)))])
    (fun j env S => ∃ (o1 o3 o4 : Option D), S = [O.lst (rgD 0 (c : Int))] ∧ env = laE ns o1 none o3 o4)
    (fun j env S ⟨_, _, _, e, _⟩ => by rw [e]; exact hgd) (rgD 0 (c : Int)) 0 (laE ns none none none none) [O.lst (rgD 0 (c : Int))] ⟨none, none, none, rfl, rfl⟩ (fun j x env S hx ⟨o1, o3, o4, e1, e2⟩ => by
      subst e1 e2
      rw [rgD_nat, List.map_map, List.getElem?_map] at hx
      obtain ⟨i, hi, rfl⟩ := Option.map_eq_some_iff.mp hx
      have hi' : i < c := by
        have h1 := List.mem_of_getElem? hi
        exact List.mem_range.mp h1
      obtain ⟨p, o3', o4', e3⟩ := place_ok (O.lst (rgD 0 (c : Int))) ns i (by omega) o3 o4 (gdTop 0 [(0, O.lst (rgD 0 (c : Int)))])
      refine ⟨laE ns (some (.int (i : Int))) none o3 o4, _, _, _, ?_, e3, some (.int (i : Int)), o3', o4', rfl, ?_⟩
      · simp
      · simp [forget]
        simp [keepSlot, below])
  have hi : lstI (callF 2 m__law_cells (consF (varF 0) (consF (conF (.int 3)) nilF))) (laE ns none none none none) [] = some (rgD 0 (c : Int), [(0, O.lst (rgD 0 (c : Int)))], [O.lst (rgD 0 (c : Int))]) := by
    simp at hc
    simp [hc]
  have b1 : forS (lstI (callF 2 m__law_cells (consF (varF 0) (consF (conF (.int 3)) nilF)))) (nameG 1) placeB 0 (laE ns none none none none) [] = some (.nx, laE ns o1 none o3 o4, []) := by
    rw [s_for_run hi rfl e1]
    simp [forget]
  exact m_ret (show seqS _ _ _ _ _ = _ from seq_go b1 (ret_go e_con)) (by simp)
end G66
set_option maxHeartbeats 4000000
/-! W66: the walk of k66: each def does what M66 says. -/
namespace G66
open PySem PySem.Spec PyProof.Rows L2 Pv
def topS (i : Nat) : Stmt := PySem.Challenge.pw_howeveritpasses_k66_whole_counters_by_ro.main.body.getD i (.Pass ⟨0, 0, 0, 0⟩)
/-- no global hides a built-in -/
structure Bi (mg : Str → Option Value) : Prop where
  abs_ : mg "abs" = none
  all_ : mg "all" = none
  bool_ : mg "bool" = none
  dict_ : mg "dict" = none
  int_ : mg "int" = none
  isinstance_ : mg "isinstance" = none
  len_ : mg "len" = none
  list_ : mg "list" = none
  max_ : mg "max" = none
  min_ : mg "min" = none
  range_ : mg "range" = none
  repr_ : mg "repr" = none
  sorted_ : mg "sorted" = none
  sum_ : mg "sum" = none
  tuple_ : mg "tuple" = none
  zip_ : mg "zip" = none
section
variable {P : Program} {w : World} {K : PySem.W.Frag} {mg : Str → Option Value} {base : Heap}
abbrev s__law_cells : Stmt := topS 30
abbrev N__law_cells : List Str := ["script", "most"]
theorem sc__law_cells : FnScope N__law_cells ["script", "most"] (defScope s__law_cells) := ⟨rfl, rfl, rfl, by decide +kernel, rfl, by decide +kernel, by decide +kernel⟩
theorem ok__law_cells {f : Addr} {fd : FuncData} (F : Fun K "_law_cells" "_law_cells" s__law_cells f fd) (B : Bi mg) : FnOk P w K mg base CX0 1 f fd ["script", "most"] (spF K 2 m__law_cells) := by
  refine def_okN 0 (sb := b__law_cells) F sc__law_cells rfl rfl rfl fun cdv A outer s H E hr => ⟨_, (pvb_one (pvs_ret (pv_lrg1 rfl (by rfl) B.list_ (by rfl) B.range_ (pv_callB (call_max2 rfl) max2_ok (by rfl) B.max_ (by decide +kernel) (pva_cons pv_int (pva_cons (pv_callB (call_min2 rfl) min2_ok (by rfl) B.min_ (by decide +kernel) (pva_cons (pv_var 1) (pva_cons (pv_lenK K (by rfl) B.len_ (pv_var 0)) pva_nil))) pva_nil))))))⟩
abbrev s__law_pot : Stmt := topS 27
abbrev N__law_pot : List Str := ["script", "place", "cell", "own", "small"]
theorem sc__law_pot : FnScope N__law_pot ["script", "place"] (defScope s__law_pot) := ⟨rfl, rfl, rfl, by decide +kernel, rfl, by decide +kernel, by decide +kernel⟩
theorem ok__law_pot {f : Addr} {fd : FuncData} (F : Fun K "_law_pot" "_law_pot" s__law_pot f fd) (B : Bi mg) : FnOk P w K mg base CX0 1 f fd ["script", "place"] (spF K 2 m__law_pot) := by
  refine def_okN 0 (sb := b__law_pot) F sc__law_pot rfl rfl rfl fun cdv A outer s H E hr => ⟨_, (pvb_cons (pvs_set 2 sc__law_pot.nd (pv_if (pvt_cmp op_lt lt_ok (pv_var 1) (pv_lenK K (by rfl) B.len_ (pv_var 0)) (nomark _)) (pv_ixsK K (pv_var 0) (pv_var 1) (fun _ _ => rfl)) (pv_addK K (pv_addK K (pv_mod (pv_callTy call_int1 int_ok (by rfl) B.int_ (by decide +kernel) (pva_cons (pv_callB (cr_sumK K rfl) sum_ok (by rfl) B.sum_ (by decide +kernel) (pva_cons (pv_sliceK K (pv_var 0) pvo_none (pvo_some pv_int)) pva_nil)) pva_nil)) pv_int) (pv_mulI pv_int (pv_var 1))) pv_int))) (pvb_cons (pvs_set 3 sc__law_pot.nd (pv_mulI (pv_mod (pv_callTy call_int1 int_ok (by rfl) B.int_ (by decide +kernel) (pva_cons (pv_callB call_abs abs_ok (by rfl) B.abs_ (by decide +kernel) (pva_cons (pv_var 2) pva_nil)) pva_nil)) (pv_powA (pv_powA pv_int pv_int) pv_int)) (pv_callTy call_int1 int_ok (by rfl) B.int_ (by decide +kernel) (pva_cons (pv_ge (pv_callB call_abs abs_ok (by rfl) B.abs_ (by decide +kernel) (pva_cons (pv_var 2) pva_nil)) (pv_powA pv_int pv_int)) pva_nil)))) (pvb_cons (pvs_set 4 sc__law_pot.nd (pv_mod (pv_callTy call_int1 int_ok (by rfl) B.int_ (by decide +kernel) (pva_cons (pv_var 2) pva_nil)) pv_int)) (pvb_one (pvs_ret (pv_lst (pva_cons (pv_var 3) (pva_cons (pv_mod (pv_callTy call_int1 int_ok (by rfl) B.int_ (by decide +kernel) (pva_cons (pv_addK K (pv_addK K (pv_mulI (pv_var 4) pv_int) (pv_mulI (pv_mulI pv_int (pv_var 1)) (pv_var 1))) pv_int) pva_nil)) pv_int) (pva_cons pv_int pva_nil)))))))))⟩
abbrev s_is_int : Stmt := topS 6
abbrev N_is_int : List Str := ["value", "low", "high"]
theorem sc_is_int : FnScope N_is_int ["value", "low", "high"] (defScope s_is_int) := ⟨rfl, rfl, rfl, by decide +kernel, rfl, by decide +kernel, by decide +kernel⟩
theorem ok_is_int {f : Addr} {fd : FuncData} (F : Fun K "is_int" "is_int" s_is_int f fd) (B : Bi mg) : FnOk P w K mg base CX0 1 f fd ["value", "low", "high"] (spF K 3 m_is_int) := by
  refine def_okN 0 (sb := b_is_int) F sc_is_int rfl rfl rfl fun cdv A outer s H E hr => ⟨_, (pvb_one (pvs_ret (pv_and (pv_isiK K (cn := "int") (pv_var 0) (by rfl) B.isinstance_ (by rfl) B.int_ (by decide +kernel)) (pv_and (pv_not (pv_isiK K (cn := "bool") (pv_var 0) (by rfl) B.isinstance_ (by rfl) B.bool_ (by decide +kernel))) (pv_one (pv_chain op_le le_ok op_le le_ok (pv_var 1) (pv_var 0) (pv_var 2)))))))⟩
abbrev s_look_at_many : Stmt := topS 16
abbrev N_look_at_many : List Str := ["many"]
theorem sc_look_at_many : FnScope N_look_at_many ["many"] (defScope s_look_at_many) := ⟨rfl, rfl, rfl, by decide +kernel, rfl, by decide +kernel, by decide +kernel⟩
theorem ok_look_at_many {f : Addr} {fd : FuncData} (F : Fun K "look_at_many" "look_at_many" s_look_at_many f fd) (B : Bi mg) (C_is_int : Def P w K mg base "is_int" 1 ["value", "low", "high"] 3 m_is_int) (I_MOST_COUNTERS : ∃ t, mg "MOST_COUNTERS" = some (.int 20 t)) : FnOk P w K mg base CX0 2 f fd ["many"] (spF K 1 m_look_at_many) := by
  obtain ⟨f_is_int, fd_is_int, F_is_int, g_is_int, k_is_int, d_is_int⟩ := C_is_int
  obtain ⟨t_MOST_COUNTERS, g_MOST_COUNTERS⟩ := I_MOST_COUNTERS
  refine def_okN 1 (sb := b_look_at_many) F sc_look_at_many rfl rfl rfl fun cdv A outer s H E hr => ⟨_, (pvb_one (pvs_if (pvt_not (pvt_val (pv_callK K F_is_int (hr.mono (by decide)) (by rfl) g_is_int k_is_int d_is_int (pva_cons (pv_var 0) (pva_cons pv_int (pva_cons (pv_globI (by rfl) g_MOST_COUNTERS ⟨_, rfl⟩) pva_nil)))))) (pvb_one pvs_no) pvb_nil))⟩
abbrev s_are_counters : Stmt := topS 17
abbrev N_are_counters : List Str := ["value", "row", "one", "other"]
theorem sc_are_counters : FnScope N_are_counters ["value"] (defScope s_are_counters) := ⟨rfl, rfl, rfl, by decide +kernel, rfl, by decide +kernel, by decide +kernel⟩
theorem ok_are_counters {f : Addr} {fd : FuncData} (F : Fun K "are_counters" "are_counters" s_are_counters f fd) (B : Bi mg) (C_is_int : Def P w K mg base "is_int" 1 ["value", "low", "high"] 3 m_is_int) (I_MOST_COUNTED : ∃ t, mg "MOST_COUNTED" = some (.int 1000000 t)) (I_MOST_COUNTERS : ∃ t, mg "MOST_COUNTERS" = some (.int 20 t)) (I_MOST_FLOW : ∃ t, mg "MOST_FLOW" = some (.int 1000 t)) : FnOk P w K mg base CX0 2 f fd ["value"] (spF K 1 m_are_counters) := by
  obtain ⟨f_is_int, fd_is_int, F_is_int, g_is_int, k_is_int, d_is_int⟩ := C_is_int
  obtain ⟨t_MOST_COUNTED, g_MOST_COUNTED⟩ := I_MOST_COUNTED
  obtain ⟨t_MOST_COUNTERS, g_MOST_COUNTERS⟩ := I_MOST_COUNTERS
  obtain ⟨t_MOST_FLOW, g_MOST_FLOW⟩ := I_MOST_FLOW
  refine def_okN 1 (sb := b_are_counters) F sc_are_counters rfl rfl rfl fun cdv A outer s H E hr => ⟨_, (pvb_cons (pvs_if (PVW.pt (pvw_or (pvt_not (pvt_val (pv_isiK K (cn := "tuple") (pv_var 0) (by rfl) B.isinstance_ (by rfl) B.tuple_ (by decide +kernel)))) (pvw_or1 (pvt_cmp op_gt gt_ok (pv_lenK K (by rfl) B.len_ (pv_var 0)) (pv_globI (by rfl) g_MOST_COUNTERS ⟨_, rfl⟩) (nomark _))))) (pvb_one (pvs_ret pv_bl)) pvb_nil) (pvb_cons (pvs_for PassesOwn.never rfl (pvi_tup (pv_var 0)) (pvg_name 1 sc_are_counters.nd) (pvb_cons (pvs_if (PVW.pt (pvw_or (pvt_not (pvt_val (pv_isiK K (cn := "tuple") (pv_var 1) (by rfl) B.isinstance_ (by rfl) B.tuple_ (by decide +kernel)))) (pvw_or1 (pvt_cmp (op_neDK K hr.units) ne_ok (pv_lenK K (by rfl) B.len_ (pv_var 1)) pv_int (nomark _))))) (pvb_one (pvs_ret pv_bl)) pvb_nil) (pvb_one (pvs_if (PVW.pt (pvw_or (pvt_not (pvt_val (pv_callK K F_is_int (hr.mono (by decide)) (by rfl) g_is_int k_is_int d_is_int (pva_cons (pv_ixsK K (pv_var 1) pv_int (fun _ _ => rfl)) (pva_cons pv_int (pva_cons (pv_globI (by rfl) g_MOST_FLOW ⟨_, rfl⟩) pva_nil)))))) (pvw_or1 (pvt_not (pvt_val (pv_callK K F_is_int (hr.mono (by decide)) (by rfl) g_is_int k_is_int d_is_int (pva_cons (pv_ixsK K (pv_var 1) pv_int (fun _ _ => rfl)) (pva_cons pv_int (pva_cons (pv_globI (by rfl) g_MOST_COUNTED ⟨_, rfl⟩) pva_nil))))))))) (pvb_one (pvs_ret pv_bl)) pvb_nil)))) (pvb_one (pvs_ret (pv_callB (cr_allK K rfl) all_ok (by rfl) B.all_ (by decide +kernel) (pva_cons (pv_lc (own := [("one", 2), ("other", 3)]) rfl sc_are_counters.nd (pvi_zip (by rfl) B.zip_ (pva_cons (pv_var 0) (pva_cons (pv_sliceK K (pv_var 0) (pvo_some pv_int) pvo_none) pva_nil))) (blkOk_by (own := [("one", 2), ("other", 3)]) (N := N_are_counters) (sc := defScope s_are_counters) (by decide +kernel)) (fun _ _ _ _ _ => (pvg_tupK K rfl (pvg_cons (pvg_name 2 sc_are_counters.nd) (pvg_cons (pvg_name 3 sc_are_counters.nd) pvg_nil)))) (own_tup (own_cons (own_name (by decide)) (own_cons (own_name (by decide)) own_nil))) (fun _ _ _ _ _ => pvts_nil) (fun _ _ _ _ _ => (pv_lt (pv_ixsK K (pv_var 2) pv_int (fun _ _ => rfl)) (pv_ixsK K (pv_var 3) pv_int (fun _ _ => rfl)))) s H) pva_nil))))))⟩
abbrev s_merged : Stmt := topS 25
abbrev N_merged : List Str := ["many", "one", "other", "some", "found", "flow", "count", "counts", "less"]
theorem sc_merged : FnScope N_merged ["many", "one", "other"] (defScope s_merged) := ⟨rfl, rfl, rfl, by decide +kernel, rfl, by decide +kernel, by decide +kernel⟩
theorem ok_merged {f : Addr} {fd : FuncData} (F : Fun K "merged" "merged" s_merged f fd) (B : Bi mg) (C_look_at_many : Def P w K mg base "look_at_many" 2 ["many"] 1 m_look_at_many) (C_are_counters : Def P w K mg base "are_counters" 2 ["value"] 1 m_are_counters) : FnOk P w K mg base CX0 3 f fd ["many", "one", "other"] (spF K 3 m_merged) := by
  obtain ⟨f_look_at_many, fd_look_at_many, F_look_at_many, g_look_at_many, k_look_at_many, d_look_at_many⟩ := C_look_at_many
  obtain ⟨f_are_counters, fd_are_counters, F_are_counters, g_are_counters, k_are_counters, d_are_counters⟩ := C_are_counters
  refine def_okN 2 (sb := b_merged) F sc_merged rfl rfl rfl fun cdv A outer s H E hr => ⟨_, (pvb_cons (pvs_expr (pv_callK K F_look_at_many (hr.mono (by decide)) (by rfl) g_look_at_many k_look_at_many d_look_at_many (pva_cons (pv_var 0) pva_nil))) (pvb_cons (pvs_for PassesOwn.never rfl (pvi_tup (pv_tup (pva_cons (pv_var 1) (pva_cons (pv_var 2) pva_nil)))) (pvg_name 3 sc_merged.nd) (pvb_one (pvs_if (PVW.pt (pvw_or (pvt_not (pvt_val (pv_callK K F_are_counters (hr.mono (by decide)) (by rfl) g_are_counters k_are_counters d_are_counters (pva_cons (pv_var 3) pva_nil)))) (pvw_or1 (pvt_cmp op_gt gt_ok (pv_lenK K (by rfl) B.len_ (pv_var 3)) (pv_var 0) (nomark _))))) (pvb_one pvs_no) pvb_nil))) (pvb_cons (pvs_set 4 sc_merged.nd (pv_callTy (cr_dictPK K rfl) dictF_ok (by rfl) B.dict_ (by decide +kernel) (pva_cons (pv_raw 1) pva_nil)) (hx := Or.inr rfl)) (pvb_cons (pvs_for PassesOwn.never rfl (pvi_tup (pv_var 2)) (pvg_tupK K rfl (pvg_cons (pvg_name 5 sc_merged.nd) (pvg_cons (pvg_name 6 sc_merged.nd) pvg_nil))) (pvb_one (pvs_dput (hu_of hr) (pv_var 4) (pv_var 5) (pv_addK K (pv_dgetx (hu_of hr) (pv_var 4) (pv_var 5) pv_int ⟨rfl, rfl, rfl, rfl⟩) (pv_var 6))))) (pvb_cons (pvs_set 7 sc_merged.nd (pv_revLK K (pv_sortedV rfl (pv_var 4) (by rfl) B.sorted_))) (pvb_cons (pvs_set 8 sc_merged.nd (pv_if (pvt_cmp op_gt gt_ok (pv_lenK K (by rfl) B.len_ (pv_var 7)) (pv_var 0) (nomark _)) (pv_ixsK K (pv_var 7) (pv_var 0) (fun _ _ => rfl)) pv_int) (hx := Or.inr rfl)) (pvb_one (pvs_ret (pv_tup (pva_cons (pv_callTy (cr_tupleK K) tuple_ok (by rfl) B.tuple_ (by decide +kernel) (pva_cons (pv_callB (cr_sortedK K) sorted_ok (by rfl) B.sorted_ (by decide +kernel) (pva_cons (pv_lock 4 (pv_lc (own := [("flow", 5)]) rfl sc_merged.nd (pvi_keys (pv_var 4)) (blkOk_by (own := [("flow", 5)]) (N := N_merged) (sc := defScope s_merged) (by decide +kernel)) (fun _ _ _ _ _ => (pvg_name 5 sc_merged.nd)) (own_name (by decide)) (fun _ _ _ _ _ => (pvts_one (pvt_cmp op_gt gt_ok (pv_dget (hu_of hr) (pv_var 4) (pv_var 5) (fun _ _ => rfl)) (pv_var 8) (nomark _)))) (fun _ _ _ _ _ => (pv_tup (pva_cons (pv_var 5) (pva_cons (pv_sub (pv_dget (hu_of hr) (pv_var 4) (pv_var 5) (fun _ _ => rfl)) (pv_var 8)) pva_nil)))) s H)) pva_nil)) pva_nil)) (pva_cons (pv_var 8) pva_nil)))))))))))⟩
abbrev s_are_flows : Stmt := topS 14
abbrev N_are_flows : List Str := ["value", "one"]
theorem sc_are_flows : FnScope N_are_flows ["value"] (defScope s_are_flows) := ⟨rfl, rfl, rfl, by decide +kernel, rfl, by decide +kernel, by decide +kernel⟩
theorem ok_are_flows {f : Addr} {fd : FuncData} (F : Fun K "are_flows" "are_flows" s_are_flows f fd) (B : Bi mg) (C_is_int : Def P w K mg base "is_int" 1 ["value", "low", "high"] 3 m_is_int) (I_MOST_FLOW : ∃ t, mg "MOST_FLOW" = some (.int 1000 t)) (I_MOST_FLOWS : ∃ t, mg "MOST_FLOWS" = some (.int 500 t)) : FnOk P w K mg base CX0 2 f fd ["value"] (spF K 1 m_are_flows) := by
  obtain ⟨f_is_int, fd_is_int, F_is_int, g_is_int, k_is_int, d_is_int⟩ := C_is_int
  obtain ⟨t_MOST_FLOW, g_MOST_FLOW⟩ := I_MOST_FLOW
  obtain ⟨t_MOST_FLOWS, g_MOST_FLOWS⟩ := I_MOST_FLOWS
  refine def_okN 1 (sb := b_are_flows) F sc_are_flows rfl rfl rfl fun cdv A outer s H E hr => ⟨_, (pvb_one (pvs_ret (pv_and (pv_isiK K (cn := "tuple") (pv_var 0) (by rfl) B.isinstance_ (by rfl) B.tuple_ (by decide +kernel)) (pv_and (pv_le (pv_lenK K (by rfl) B.len_ (pv_var 0)) (pv_globI (by rfl) g_MOST_FLOWS ⟨_, rfl⟩)) (pv_one (pv_callB (cr_allK K rfl) all_ok (by rfl) B.all_ (by decide +kernel) (pva_cons (pv_lc (own := [("one", 1)]) rfl sc_are_flows.nd (pvi_tup (pv_var 0)) (blkOk_by (own := [("one", 1)]) (N := N_are_flows) (sc := defScope s_are_flows) (by decide +kernel)) (fun _ _ _ _ _ => (pvg_name 1 sc_are_flows.nd)) (own_name (by decide)) (fun _ _ _ _ _ => pvts_nil) (fun _ _ _ _ _ => (pv_callK K F_is_int (hr.mono (by decide)) (by rfl) g_is_int k_is_int d_is_int (pva_cons (pv_var 1) (pva_cons pv_int (pva_cons (pv_globI (by rfl) g_MOST_FLOW ⟨_, rfl⟩) pva_nil))))) s H) pva_nil)))))))⟩
abbrev s_look_at_flows : Stmt := topS 15
abbrev N_look_at_flows : List Str := ["flows"]
theorem sc_look_at_flows : FnScope N_look_at_flows ["flows"] (defScope s_look_at_flows) := ⟨rfl, rfl, rfl, by decide +kernel, rfl, by decide +kernel, by decide +kernel⟩
theorem ok_look_at_flows {f : Addr} {fd : FuncData} (F : Fun K "look_at_flows" "look_at_flows" s_look_at_flows f fd) (B : Bi mg) (C_are_flows : Def P w K mg base "are_flows" 2 ["value"] 1 m_are_flows) : FnOk P w K mg base CX0 3 f fd ["flows"] (spF K 1 m_look_at_flows) := by
  obtain ⟨f_are_flows, fd_are_flows, F_are_flows, g_are_flows, k_are_flows, d_are_flows⟩ := C_are_flows
  refine def_okN 2 (sb := b_look_at_flows) F sc_look_at_flows rfl rfl rfl fun cdv A outer s H E hr => ⟨_, (pvb_one (pvs_if (pvt_not (pvt_val (pv_callK K F_are_flows (hr.mono (by decide)) (by rfl) g_are_flows k_are_flows d_are_flows (pva_cons (pv_var 0) pva_nil)))) (pvb_one pvs_no) pvb_nil))⟩
abbrev s_told_counters : Stmt := topS 19
abbrev N_told_counters : List Str := ["many", "flows", "found", "lessened", "flow", "one"]
theorem sc_told_counters : FnScope N_told_counters ["many", "flows"] (defScope s_told_counters) := ⟨rfl, rfl, rfl, by decide +kernel, rfl, by decide +kernel, by decide +kernel⟩
theorem ok_told_counters {f : Addr} {fd : FuncData} (F : Fun K "told_counters" "told_counters" s_told_counters f fd) (B : Bi mg) : FnOk P w K mg base CX0 1 f fd ["many", "flows"] (spF K 2 m_told_counters) := by
  refine def_okN 0 (sb := b_told_counters) F sc_told_counters rfl rfl rfl fun cdv A outer s H E hr => ⟨_, (pvb_cons (pvs_asg (pv_tup (pva_cons pv_dnew (pva_cons pv_int pva_nil))) (pvg_tupK K rfl (pvg_cons (pvg_name 2 sc_told_counters.nd (hx := Or.inr rfl)) (pvg_cons (pvg_name 3 sc_told_counters.nd) pvg_nil)))) (pvb_cons (pvs_for PassesOwn.never rfl (pvi_tup (pv_var 1)) (pvg_name 4 sc_told_counters.nd) (pvb_one (pvs_if (PVW.pt (pvw_or (pvt_din (hu_of hr) (pv_var 4) (pv_var 2)) (pvw_or1 (pvt_cmp op_lt lt_ok (pv_lenK K (by rfl) B.len_ (pv_var 2)) (pv_var 0) (nomark _))))) (pvb_one (pvs_dput (hu_of hr) (pv_var 2) (pv_var 4) (pv_addK K (pv_dgetx (hu_of hr) (pv_var 2) (pv_var 4) pv_int ⟨rfl, rfl, rfl, rfl⟩) pv_int))) (pvb_cons (pvs_set 2 sc_told_counters.nd (pv_lock 2 (pv_dc (own := [("one", 5)]) rfl sc_told_counters.nd (pvi_keys (pv_var 2)) (blkOk_by (own := [("one", 5)]) (N := N_told_counters) (sc := defScope s_told_counters) (by decide +kernel)) (fun _ _ _ _ _ => (pvg_name 5 sc_told_counters.nd)) (own_name (by decide)) (fun _ _ _ _ _ => (pvts_one (pvt_cmp op_gt gt_ok (pv_dget (hu_of hr) (pv_var 2) (pv_var 5) (fun _ _ => rfl)) pv_int (nomark _)))) (fun _ _ _ _ _ => (pv_var 5)) (fun _ _ _ _ _ => (pv_sub (pv_dget (hu_of hr) (pv_var 2) (pv_var 5) (fun _ _ => rfl)) pv_int)) s H)) (hx := Or.inr rfl)) (pvb_one (pvs_aug 3 ip_add ipAdd_ok sc_told_counters.nd pv_int)))))) (pvb_one (pvs_ret (pv_tup (pva_cons (pv_var 2) (pva_cons (pv_var 3) pva_nil)))))))⟩
abbrev s_counters : Stmt := topS 20
abbrev N_counters : List Str := ["many", "flows", "found", "lessened"]
theorem sc_counters : FnScope N_counters ["many", "flows"] (defScope s_counters) := ⟨rfl, rfl, rfl, by decide +kernel, rfl, by decide +kernel, by decide +kernel⟩
theorem ok_counters {f : Addr} {fd : FuncData} (F : Fun K "counters" "counters" s_counters f fd) (B : Bi mg) (C_look_at_many : Def P w K mg base "look_at_many" 2 ["many"] 1 m_look_at_many) (C_look_at_flows : Def P w K mg base "look_at_flows" 3 ["flows"] 1 m_look_at_flows) (C_told_counters : Def P w K mg base "told_counters" 1 ["many", "flows"] 2 m_told_counters) : FnOk P w K mg base CX0 4 f fd ["many", "flows"] (spF K 2 m_counters) := by
  obtain ⟨f_look_at_many, fd_look_at_many, F_look_at_many, g_look_at_many, k_look_at_many, d_look_at_many⟩ := C_look_at_many
  obtain ⟨f_look_at_flows, fd_look_at_flows, F_look_at_flows, g_look_at_flows, k_look_at_flows, d_look_at_flows⟩ := C_look_at_flows
  obtain ⟨f_told_counters, fd_told_counters, F_told_counters, g_told_counters, k_told_counters, d_told_counters⟩ := C_told_counters
  refine def_okN 3 (sb := b_counters) F sc_counters rfl rfl rfl fun cdv A outer s H E hr => ⟨_, (pvb_cons (pvs_expr (pv_callK K F_look_at_many (hr.mono (by decide)) (by rfl) g_look_at_many k_look_at_many d_look_at_many (pva_cons (pv_var 0) pva_nil))) (pvb_cons (pvs_expr (pv_callK K F_look_at_flows (hr.mono (by decide)) (by rfl) g_look_at_flows k_look_at_flows d_look_at_flows (pva_cons (pv_var 1) pva_nil))) (pvb_cons (pvs_asg (pv_callK K F_told_counters (hr.mono (by decide)) (by rfl) g_told_counters k_told_counters d_told_counters (pva_cons (pv_var 0) (pva_cons (pv_var 1) pva_nil))) (pvg_tupK K rfl (pvg_cons (pvg_name 2 sc_counters.nd) (pvg_cons (pvg_name 3 sc_counters.nd) pvg_nil)))) (pvb_one (pvs_ret (pv_tup (pva_cons (pv_callTy (cr_tupFK K) tupF_ok (by rfl) B.tuple_ (by decide +kernel) (pva_cons (pv_sortedI rfl (pv_var 2) (by rfl) B.sorted_) pva_nil)) (pva_cons (pv_raw 3) pva_nil))))))))⟩
abbrev s__law_take : Stmt := topS 28
abbrev N__law_take : List Str := ["pot", "upto", "digit", "prime", "mixture"]
theorem sc__law_take : FnScope N__law_take ["pot", "upto"] (defScope s__law_take) := ⟨rfl, rfl, rfl, by decide +kernel, rfl, by decide +kernel, by decide +kernel⟩
theorem ok__law_take {f : Addr} {fd : FuncData} (F : Fun K "_law_take" "_law_take" s__law_take f fd) (B : Bi mg) : FnOk P w K mg base CX0 1 f fd ["pot", "upto"] (spF K 2 m__law_take) := by
  refine def_okN 0 (sb := b__law_take) F sc__law_take rfl rfl rfl fun cdv A outer s H E hr => ⟨_, (pvb_cons (pvs_if (pvt_cmp op_gt gt_ok (pv_ixsK K (pv_var 0) pv_int (fun _ _ => rfl)) pv_int (nomark _)) (pvb_cons (pvs_set 2 sc__law_take.nd (pv_mod (pv_callTy call_int1 int_ok (by rfl) B.int_ (by decide +kernel) (pva_cons (pv_ixsK K (pv_var 0) pv_int (fun _ _ => rfl)) pva_nil)) (pv_var 1))) (pvb_cons (pvs_setL (pv_var 0) pv_int (pv_div (pv_ixsK K (pv_var 0) pv_int (fun _ _ => rfl)) (pv_var 1))) (pvb_one (pvs_ret (pv_var 2))))) pvb_nil) (pvb_cons (pvs_setL (pv_var 0) pv_int (pv_addK K (pv_ixsK K (pv_var 0) pv_int (fun _ _ => rfl)) pv_int)) (pvb_cons (pvs_set 3 sc__law_take.nd (pv_ixsK K (pv_lst (pva_cons pv_int (pva_cons pv_int (pva_cons pv_int (pva_cons pv_int (pva_cons pv_int pva_nil)))))) (pv_mod (pv_callTy call_int1 int_ok (by rfl) B.int_ (by decide +kernel) (pva_cons (pv_ixsK K (pv_var 0) pv_int (fun _ _ => rfl)) pva_nil)) pv_int) (fun _ _ => rfl))) (pvb_cons (pvs_set 4 sc__law_take.nd (pv_mod (pv_callTy call_int1 int_ok (by rfl) B.int_ (by decide +kernel) (pva_cons (pv_powA (pv_callTy call_int1 int_ok (by rfl) B.int_ (by decide +kernel) (pva_cons (pv_addK K (pv_addK K (pv_ixsK K (pv_var 0) pv_int (fun _ _ => rfl)) (pv_mulI (pv_mulI pv_int (pv_ixsK K (pv_var 0) pv_int (fun _ _ => rfl))) (pv_ixsK K (pv_var 0) pv_int (fun _ _ => rfl)))) pv_int) pva_nil)) pv_int) pva_nil)) (pv_var 3))) (pvb_cons (pvs_set 4 sc__law_take.nd (pv_mod (pv_callTy call_int1 int_ok (by rfl) B.int_ (by decide +kernel) (pva_cons (pv_mulI (pv_var 4) (pv_addK K (pv_mod (pv_callTy call_int1 int_ok (by rfl) B.int_ (by decide +kernel) (pva_cons (pv_var 4) pva_nil)) pv_int) (pv_mulI pv_int (pv_ixsK K (pv_var 0) pv_int (fun _ _ => rfl))))) pva_nil)) pv_int)) (pvb_one (pvs_ret (pv_mod (pv_callTy call_int1 int_ok (by rfl) B.int_ (by decide +kernel) (pva_cons (pv_div (pv_var 4) pv_int) pva_nil)) (pv_var 1)))))))))⟩
abbrev s__law_some : Stmt := topS 31
abbrev N__law_some : List Str := ["pot", "pool", "many", "rests", "found", "lap"]
theorem sc__law_some : FnScope N__law_some ["pot", "pool", "many"] (defScope s__law_some) := ⟨rfl, rfl, rfl, by decide +kernel, rfl, by decide +kernel, by decide +kernel⟩
theorem ok__law_some {f : Addr} {fd : FuncData} (F : Fun K "_law_some" "_law_some" s__law_some f fd) (B : Bi mg) (C__law_take : Def P w K mg base "_law_take" 1 ["pot", "upto"] 2 m__law_take) : FnOk P w K mg base CX0 2 f fd ["pot", "pool", "many"] (spF K 3 m__law_some) := by
  obtain ⟨f__law_take, fd__law_take, F__law_take, g__law_take, k__law_take, d__law_take⟩ := C__law_take
  refine def_okN 1 (sb := b__law_some) F sc__law_some rfl rfl rfl fun cdv A outer s H E hr => ⟨_, (pvb_cons (pvs_par rfl sc__law_some.nd (by decide) rfl rfl (pva_cons (pv_callTy (cr_listK K) list_ok (by rfl) B.list_ (by decide +kernel) (pva_cons (pv_var 1) pva_nil)) (pva_cons (pv_lst pva_nil) pva_nil)) (by rfl)) (pvb_cons (pvs_for PassesOwn.never rfl (pvi_range1 (by rfl) B.range_ (pva_cons (pv_var 2) pva_nil)) (pvg_name 5 sc__law_some.nd) (pvb_one (pvs_expr (pv_appendK K (pv_var 4) (pva_cons (pv_popAtK K (pv_var 3) (pva_cons (pv_callK K F__law_take (hr.mono (by decide)) (by rfl) g__law_take k__law_take d__law_take (pva_cons (pv_var 0) (pva_cons (pv_lenK K (by rfl) B.len_ (pv_var 3)) pva_nil))) pva_nil)) pva_nil))))) (pvb_one (pvs_ret (pv_var 4)))))⟩
abbrev s__law_go : Stmt := topS 32
abbrev N__law_go : List Str := ["many", "flows", "counts", "lessened", "flow", "one"]
theorem sc__law_go : FnScope N__law_go ["many", "flows"] (defScope s__law_go) := ⟨rfl, rfl, rfl, by decide +kernel, rfl, by decide +kernel, by decide +kernel⟩
theorem ok__law_go {f : Addr} {fd : FuncData} (F : Fun K "_law_go" "_law_go" s__law_go f fd) (B : Bi mg) : FnOk P w K mg base CX0 1 f fd ["many", "flows"] (spF K 2 m__law_go) := by
  refine def_okN 0 (sb := b__law_go) F sc__law_go rfl rfl rfl fun cdv A outer s H E hr => ⟨_, (pvb_cons (pvs_asg (pv_tup (pva_cons (pv_dict0 (by rfl) B.dict_) (pva_cons pv_int pva_nil))) (pvg_tupK K rfl (pvg_cons (pvg_name 2 sc__law_go.nd (hx := Or.inr rfl)) (pvg_cons (pvg_name 3 sc__law_go.nd) pvg_nil)))) (pvb_cons (pvs_for PassesOwn.never rfl (pvi_tup (pv_var 1)) (pvg_name 4 sc__law_go.nd) (pvb_one (pvs_if (PVW.pt (pvw_or (pvt_din (hu_of hr) (pv_var 4) (pv_var 2)) (pvw_or1 (pvt_cmp op_lt lt_ok (pv_lenK K (by rfl) B.len_ (pv_var 2)) (pv_var 0) (nomark _))))) (pvb_one (pvs_dput (hu_of hr) (pv_var 2) (pv_var 4) (pv_addK K (pv_dgetx (hu_of hr) (pv_var 2) (pv_var 4) pv_int ⟨rfl, rfl, rfl, rfl⟩) pv_int))) (pvb_cons (pvs_set 3 sc__law_go.nd (pv_addK K (pv_var 3) pv_int)) (pvb_one (pvs_set 2 sc__law_go.nd (pv_callTy (cr_dictLK K rfl) dict_ok (by rfl) B.dict_ (by decide +kernel) (pva_cons (pv_lock 2 (pv_lc (own := [("one", 5)]) rfl sc__law_go.nd (pvi_keys (pv_var 2)) (blkOk_by (own := [("one", 5)]) (N := N__law_go) (sc := defScope s__law_go) (by decide +kernel)) (fun _ _ _ _ _ => (pvg_name 5 sc__law_go.nd)) (own_name (by decide)) (fun _ _ _ _ _ => (pvts_one (pvt_cmp op_gt gt_ok (pv_dget (hu_of hr) (pv_var 2) (pv_var 5) (fun _ _ => rfl)) pv_int (nomark _)))) (fun _ _ _ _ _ => (pv_tup (pva_cons (pv_var 5) (pva_cons (pv_sub (pv_dget (hu_of hr) (pv_var 2) (pv_var 5) (fun _ _ => rfl)) pv_int) pva_nil)))) s H)) pva_nil)) (hx := Or.inr rfl))))))) (pvb_one (pvs_ret (pv_tup (pva_cons (pv_callTy (cr_tupleK K) tuple_ok (by rfl) B.tuple_ (by decide +kernel) (pva_cons (pv_callB (cr_sortedK K) sorted_ok (by rfl) B.sorted_ (by decide +kernel) (pva_cons (pv_lock 2 (pv_lc (own := [("one", 5)]) rfl sc__law_go.nd (pvi_keys (pv_var 2)) (blkOk_by (own := [("one", 5)]) (N := N__law_go) (sc := defScope s__law_go) (by decide +kernel)) (fun _ _ _ _ _ => (pvg_name 5 sc__law_go.nd)) (own_name (by decide)) (fun _ _ _ _ _ => pvts_nil) (fun _ _ _ _ _ => (pv_tup (pva_cons (pv_var 5) (pva_cons (pv_dget (hu_of hr) (pv_var 2) (pv_var 5) (fun _ _ => rfl)) pva_nil)))) s H)) pva_nil)) pva_nil)) (pva_cons (pv_var 3) pva_nil)))))))⟩
abbrev s__law_of : Stmt := topS 29
abbrev N__law_of : List Str := ["pot", "some"]
theorem sc__law_of : FnScope N__law_of ["pot", "some"] (defScope s__law_of) := ⟨rfl, rfl, rfl, by decide +kernel, rfl, by decide +kernel, by decide +kernel⟩
theorem ok__law_of {f : Addr} {fd : FuncData} (F : Fun K "_law_of" "_law_of" s__law_of f fd) (B : Bi mg) (C__law_take : Def P w K mg base "_law_take" 1 ["pot", "upto"] 2 m__law_take) : FnOk P w K mg base CX0 2 f fd ["pot", "some"] (spF K 2 m__law_of) := by
  obtain ⟨f__law_take, fd__law_take, F__law_take, g__law_take, k__law_take, d__law_take⟩ := C__law_take
  refine def_okN 1 (sb := b__law_of) F sc__law_of rfl rfl rfl fun cdv A outer s H E hr => ⟨_, (pvb_one (pvs_ret (pv_ixsK K (pv_var 1) (pv_callK K F__law_take (hr.mono (by decide)) (by rfl) g__law_take k__law_take d__law_take (pva_cons (pv_var 0) (pva_cons (pv_lenK K (by rfl) B.len_ (pv_var 1)) pva_nil))) (fun _ _ => rfl))))⟩
abbrev s__law_are_lots_right : Stmt := topS 35
abbrev N__law_are_lots_right : List Str := ["pot", "many", "size", "flows", "names", "far", "told", "its", "cut", "one", "other", "rows", "less", "sums", "flow", "much", "ranked", "cutoff", "lost", "counts", "packet"]
theorem sc__law_are_lots_right : FnScope N__law_are_lots_right ["pot", "many"] (defScope s__law_are_lots_right) := ⟨rfl, rfl, rfl, by decide +kernel, rfl, by decide +kernel, by decide +kernel⟩
theorem ok__law_are_lots_right {f : Addr} {fd : FuncData} (F : Fun K "_law_are_lots_right" "_law_are_lots_right" s__law_are_lots_right f fd) (B : Bi mg) (C__law_take : Def P w K mg base "_law_take" 1 ["pot", "upto"] 2 m__law_take) (C__law_of : Def P w K mg base "_law_of" 2 ["pot", "some"] 2 m__law_of) (C__law_some : Def P w K mg base "_law_some" 2 ["pot", "pool", "many"] 3 m__law_some) (C_counters : Def P w K mg base "counters" 4 ["many", "flows"] 2 m_counters) (C__law_go : Def P w K mg base "_law_go" 1 ["many", "flows"] 2 m__law_go) (C_merged : Def P w K mg base "merged" 3 ["many", "one", "other"] 3 m_merged) : FnOk P w K mg base CX0 5 f fd ["pot", "many"] (spF K 2 m__law_are_lots_right) := by
  obtain ⟨f__law_take, fd__law_take, F__law_take, g__law_take, k__law_take, d__law_take⟩ := C__law_take
  obtain ⟨f__law_of, fd__law_of, F__law_of, g__law_of, k__law_of, d__law_of⟩ := C__law_of
  obtain ⟨f__law_some, fd__law_some, F__law_some, g__law_some, k__law_some, d__law_some⟩ := C__law_some
  obtain ⟨f_counters, fd_counters, F_counters, g_counters, k_counters, d_counters⟩ := C_counters
  obtain ⟨f__law_go, fd__law_go, F__law_go, g__law_go, k__law_go, d__law_go⟩ := C__law_go
  obtain ⟨f_merged, fd_merged, F_merged, g_merged, k_merged, d_merged⟩ := C_merged
  refine def_okN 4 (sb := b__law_are_lots_right) F sc__law_are_lots_right rfl rfl rfl fun cdv A outer s H E hr => ⟨_, (pvb_cons (pvs_set 2 sc__law_are_lots_right.nd (pv_addK K pv_int (pv_callTy call_int1 int_ok (by rfl) B.int_ (by decide +kernel) (pva_cons (pv_callK K F__law_take (hr.mono (by decide)) (by rfl) g__law_take k__law_take d__law_take (pva_cons (pv_var 0) (pva_cons (pv_callK K F__law_of (hr.mono (by decide)) (by rfl) g__law_of k__law_of d__law_of (pva_cons (pv_var 0) (pva_cons (pv_lst (pva_cons pv_int (pva_cons pv_int pva_nil))) pva_nil))) pva_nil))) pva_nil))) (hx := Or.inr rfl)) (pvb_cons (pvs_set 3 sc__law_are_lots_right.nd (pv_callTy (cr_tupFK K) tupF_ok (by rfl) B.tuple_ (by decide +kernel) (pva_cons (pv_lc (own := [("packet", 20)]) rfl sc__law_are_lots_right.nd (pvi_range1 (by rfl) B.range_ (pva_cons (pv_callK K F__law_take (hr.mono (by decide)) (by rfl) g__law_take k__law_take d__law_take (pva_cons (pv_var 0) (pva_cons pv_int pva_nil))) pva_nil)) (blkOk_by (own := [("packet", 20)]) (N := N__law_are_lots_right) (sc := defScope s__law_are_lots_right) (by decide +kernel)) (fun _ _ _ _ _ => (pvg_name 20 sc__law_are_lots_right.nd)) (own_name (by decide)) (fun _ _ _ _ _ => pvts_nil) (fun _ _ _ _ _ => (pv_callTy call_int1 int_ok (by rfl) B.int_ (by decide +kernel) (pva_cons (pv_callK K F__law_take (hr.mono (by decide)) (by rfl) g__law_take k__law_take d__law_take (pva_cons (pv_var 0) (pva_cons (pv_var 2) pva_nil))) pva_nil))) s H) pva_nil)) (hx := Or.inr rfl)) (pvb_cons (pvs_set 4 sc__law_are_lots_right.nd (pv_lc (own := [("flow", 14)]) rfl sc__law_are_lots_right.nd (pvi_list (pv_callK K F__law_some (hr.mono (by decide)) (by rfl) g__law_some k__law_some d__law_some (pva_cons (pv_var 0) (pva_cons (pv_lrg1 rfl (by rfl) B.list_ (by rfl) B.range_ pv_int) (pva_cons (pv_var 2) pva_nil))))) (blkOk_by (own := [("flow", 14)]) (N := N__law_are_lots_right) (sc := defScope s__law_are_lots_right) (by decide +kernel)) (fun _ _ _ _ _ => (pvg_name 14 sc__law_are_lots_right.nd)) (own_name (by decide)) (fun _ _ _ _ _ => pvts_nil) (fun _ _ _ _ _ => (pv_callTy call_int1 int_ok (by rfl) B.int_ (by decide +kernel) (pva_cons (pv_var 14) pva_nil))) s H) (hx := Or.inr rfl)) (pvb_cons (pvs_set 5 sc__law_are_lots_right.nd (pv_callTy (cr_tupleK K) tuple_ok (by rfl) B.tuple_ (by decide +kernel) (pva_cons (pv_lc (own := [("flow", 14)]) rfl sc__law_are_lots_right.nd (pvi_tup (pv_var 3)) (blkOk_by (own := [("flow", 14)]) (N := N__law_are_lots_right) (sc := defScope s__law_are_lots_right) (by decide +kernel)) (fun _ _ _ _ _ => (pvg_name 14 sc__law_are_lots_right.nd)) (own_name (by decide)) (fun _ _ _ _ _ => pvts_nil) (fun _ _ _ _ _ => (pv_ixsK K (pv_var 4) (pv_var 14) (fun _ _ => rfl))) s H) pva_nil))) (pvb_cons (pvs_par rfl sc__law_are_lots_right.nd (by decide) rfl rfl (pva_cons (pv_callK K F_counters (hr.mono (by decide)) (by rfl) g_counters k_counters d_counters (pva_cons (pv_var 1) (pva_cons (pv_var 3) pva_nil))) (pva_cons (pv_callK K F_counters (hr.mono (by decide)) (by rfl) g_counters k_counters d_counters (pva_cons (pv_var 1) (pva_cons (pv_var 5) pva_nil))) pva_nil)) (by rfl)) (pvb_cons (pvs_if (PVW.pt (pvw_or (pvt_cmp (op_neDK K hr.units) ne_ok (pv_var 6) (pv_callK K F__law_go (hr.mono (by decide)) (by rfl) g__law_go k__law_go d__law_go (pva_cons (pv_var 1) (pva_cons (pv_var 3) pva_nil))) (nomark _)) (pvw_or1 (pvt_cmp (op_neDK K hr.units) ne_ok (pv_var 7) (pv_tup (pva_cons (pv_callTy (cr_tupleK K) tuple_ok (by rfl) B.tuple_ (by decide +kernel) (pva_cons (pv_callB (cr_sortedK K) sorted_ok (by rfl) B.sorted_ (by decide +kernel) (pva_cons (pv_lc (own := [("flow", 14), ("much", 15)]) rfl sc__law_are_lots_right.nd (pvi_tup (pv_ixsK K (pv_var 6) pv_int (fun _ _ => rfl))) (blkOk_by (own := [("flow", 14), ("much", 15)]) (N := N__law_are_lots_right) (sc := defScope s__law_are_lots_right) (by decide +kernel)) (fun _ _ _ _ _ => (pvg_tupK K rfl (pvg_cons (pvg_name 14 sc__law_are_lots_right.nd) (pvg_cons (pvg_name 15 sc__law_are_lots_right.nd) pvg_nil)))) (own_tup (own_cons (own_name (by decide)) (own_cons (own_name (by decide)) own_nil))) (fun _ _ _ _ _ => pvts_nil) (fun _ _ _ _ _ => (pv_tup (pva_cons (pv_ixsK K (pv_var 4) (pv_var 14) (fun _ _ => rfl)) (pva_cons (pv_var 15) pva_nil)))) s H) pva_nil)) pva_nil)) (pva_cons (pv_ixsK K (pv_var 6) pv_int (fun _ _ => rfl)) pva_nil))) (nomark _))))) (pvb_one (pvs_ret pv_bl)) pvb_nil) (pvb_cons (pvs_set 8 sc__law_are_lots_right.nd (pv_callTy call_int1 int_ok (by rfl) B.int_ (by decide +kernel) (pva_cons (pv_callK K F__law_take (hr.mono (by decide)) (by rfl) g__law_take k__law_take d__law_take (pva_cons (pv_var 0) (pva_cons (pv_addK K (pv_lenK K (by rfl) B.len_ (pv_var 3)) pv_int) pva_nil))) pva_nil))) (pvb_cons (pvs_par rfl sc__law_are_lots_right.nd (by decide) rfl rfl (pva_cons (pv_callK K F_counters (hr.mono (by decide)) (by rfl) g_counters k_counters d_counters (pva_cons (pv_var 1) (pva_cons (pv_sliceK K (pv_var 3) pvo_none (pvo_some (pv_var 8))) pva_nil))) (pva_cons (pv_callK K F_counters (hr.mono (by decide)) (by rfl) g_counters k_counters d_counters (pva_cons (pv_var 1) (pva_cons (pv_sliceK K (pv_var 3) (pvo_some (pv_var 8)) pvo_none) pva_nil))) pva_nil)) (by rfl)) (pvb_cons (pvs_asg (pv_callK K F_merged (hr.mono (by decide)) (by rfl) g_merged k_merged d_merged (pva_cons (pv_raw 1) (pva_cons (pv_ixsK K (pv_raw 9) pv_int (fun _ _ => rfl)) (pva_cons (pv_ixsK K (pv_raw 10) pv_int (fun _ _ => rfl)) pva_nil)))) (pvg_tupK K rfl (pvg_cons (pvg_name 11 sc__law_are_lots_right.nd) (pvg_cons (pvg_name 12 sc__law_are_lots_right.nd (hx := Or.inr rfl)) pvg_nil)))) (pvb_cons (pvs_if (PVW.pt (pvw_or (pvt_cmp (op_neDK K hr.units) ne_ok (pv_callK K F_merged (hr.mono (by decide)) (by rfl) g_merged k_merged d_merged (pva_cons (pv_raw 1) (pva_cons (pv_ixsK K (pv_raw 10) pv_int (fun _ _ => rfl)) (pva_cons (pv_ixsK K (pv_raw 9) pv_int (fun _ _ => rfl)) pva_nil)))) (pv_tup (pva_cons (pv_var 11) (pva_cons (pv_var 12) pva_nil))) (nomark _)) (pvw_or1 (pvt_cmp (op_neDK K hr.units) ne_ok (pv_callK K F_merged (hr.mono (by decide)) (by rfl) g_merged k_merged d_merged (pva_cons (pv_raw 1) (pva_cons (pv_ixsK K (pv_raw 9) pv_int (fun _ _ => rfl)) (pva_cons (pv_tup pva_nil) pva_nil)))) (pv_tup (pva_cons (pv_ixsK K (pv_var 9) pv_int (fun _ _ => rfl)) (pva_cons pv_int pva_nil))) (nomark _))))) (pvb_one (pvs_ret pv_bl)) pvb_nil) (pvb_cons (pvs_set 13 sc__law_are_lots_right.nd (pv_callTy (cr_dictLK K rfl) dict_ok (by rfl) B.dict_ (by decide +kernel) (pva_cons (pv_callTy (cr_listK K) list_ok (by rfl) B.list_ (by decide +kernel) (pva_cons (pv_ixsK K (pv_var 9) pv_int (fun _ _ => rfl)) pva_nil)) pva_nil)) (hx := Or.inr rfl)) (pvb_cons (pvs_for PassesOwn.never rfl (pvi_tup (pv_ixsK K (pv_var 10) pv_int (fun _ _ => rfl))) (pvg_tupK K rfl (pvg_cons (pvg_name 14 sc__law_are_lots_right.nd) (pvg_cons (pvg_name 15 sc__law_are_lots_right.nd) pvg_nil))) (pvb_one (pvs_dput (hu_of hr) (pv_var 13) (pv_var 14) (pv_addK K (pv_dgetx (hu_of hr) (pv_var 13) (pv_var 14) pv_int ⟨rfl, rfl, rfl, rfl⟩) (pv_var 15))))) (pvb_cons (pvs_set 16 sc__law_are_lots_right.nd (pv_revLK K (pv_callB (cr_sortedK K) sorted_ok (by rfl) B.sorted_ (by decide +kernel) (pva_cons (pv_lock 13 (pv_lc (own := [("flow", 14)]) rfl sc__law_are_lots_right.nd (pvi_keys (pv_var 13)) (blkOk_by (own := [("flow", 14)]) (N := N__law_are_lots_right) (sc := defScope s__law_are_lots_right) (by decide +kernel)) (fun _ _ _ _ _ => (pvg_name 14 sc__law_are_lots_right.nd)) (own_name (by decide)) (fun _ _ _ _ _ => pvts_nil) (fun _ _ _ _ _ => (pv_dget (hu_of hr) (pv_var 13) (pv_var 14) (fun _ _ => rfl))) s H)) pva_nil)))) (pvb_cons (pvs_set 17 sc__law_are_lots_right.nd (pv_if (pvt_cmp op_gt gt_ok (pv_lenK K (by rfl) B.len_ (pv_var 16)) (pv_var 1) (nomark _)) (pv_ixsK K (pv_var 16) (pv_var 1) (fun _ _ => rfl)) pv_int)) (pvb_cons (pvs_if (PVW.pt (pvw_or (pvt_cmp (op_neDK K hr.units) ne_ok (pv_var 12) (pv_var 17) (nomark _)) (pvw_or1 (pvt_cmp (op_neDK K hr.units) ne_ok (pv_var 11) (pv_callTy (cr_tupleK K) tuple_ok (by rfl) B.tuple_ (by decide +kernel) (pva_cons (pv_callB (cr_sortedK K) sorted_ok (by rfl) B.sorted_ (by decide +kernel) (pva_cons (pv_lock 13 (pv_lc (own := [("flow", 14)]) rfl sc__law_are_lots_right.nd (pvi_keys (pv_var 13)) (blkOk_by (own := [("flow", 14)]) (N := N__law_are_lots_right) (sc := defScope s__law_are_lots_right) (by decide +kernel)) (fun _ _ _ _ _ => (pvg_name 14 sc__law_are_lots_right.nd)) (own_name (by decide)) (fun _ _ _ _ _ => (pvts_one (pvt_cmp op_gt gt_ok (pv_dget (hu_of hr) (pv_var 13) (pv_var 14) (fun _ _ => rfl)) (pv_var 12) (nomark _)))) (fun _ _ _ _ _ => (pv_tup (pva_cons (pv_var 14) (pva_cons (pv_sub (pv_dget (hu_of hr) (pv_var 13) (pv_var 14) (fun _ _ => rfl)) (pv_var 12)) pva_nil)))) s H)) pva_nil)) pva_nil)) (nomark _))))) (pvb_one (pvs_ret pv_bl)) pvb_nil) (pvb_cons (pvs_set 18 sc__law_are_lots_right.nd (pv_addK K (pv_addK K (pv_ixsK K (pv_var 9) pv_int (fun _ _ => rfl)) (pv_ixsK K (pv_var 10) pv_int (fun _ _ => rfl))) (pv_var 12)) (hx := Or.inr rfl)) (pvb_cons (pvs_if (PVW.pt (pvw_or (pvt_cmp op_gt gt_ok (pv_mulI (pv_var 18) (pv_addK K (pv_var 1) pv_int)) (pv_lenK K (by rfl) B.len_ (pv_var 3)) (nomark _)) (pvw_or1 (pvt_cmp op_gt gt_ok (pv_lenK K (by rfl) B.len_ (pv_var 11)) (pv_var 1) (nomark _))))) (pvb_one (pvs_ret pv_bl)) pvb_nil) (pvb_cons (pvs_set 19 sc__law_are_lots_right.nd (pv_callTy (cr_dictLK K rfl) dict_ok (by rfl) B.dict_ (by decide +kernel) (pva_cons (pv_callTy (cr_listK K) list_ok (by rfl) B.list_ (by decide +kernel) (pva_cons (pv_var 11) pva_nil)) pva_nil)) (hx := Or.inr rfl)) (pvb_one (pvs_ret (pv_callB (cr_allK K rfl) all_ok (by rfl) B.all_ (by decide +kernel) (pva_cons (pv_lc (own := [("flow", 14)]) rfl sc__law_are_lots_right.nd (pvi_range1 (by rfl) B.range_ (pva_cons (pv_var 2) pva_nil)) (blkOk_by (own := [("flow", 14)]) (N := N__law_are_lots_right) (sc := defScope s__law_are_lots_right) (by decide +kernel)) (fun _ _ _ _ _ => (pvg_name 14 sc__law_are_lots_right.nd)) (own_name (by decide)) (fun _ _ _ _ _ => pvts_nil) (fun _ _ _ _ _ => (pv_chain op_le le_ok op_le le_ok (pv_sub (pv_cnt 3 (pv_raw 3).pe (pv_var 14)) (pv_var 18)) (pv_dgetx (hu_of hr) (pv_var 19) (pv_var 14) pv_int ⟨rfl, rfl, rfl, rfl⟩) (pv_cnt 3 (pv_raw 3).pe (pv_var 14)))) s H) pva_nil))))))))))))))))))))))⟩
abbrev s_most_lost : Stmt := topS 21
abbrev N_most_lost : List Str := ["many", "packets"]
theorem sc_most_lost : FnScope N_most_lost ["many", "packets"] (defScope s_most_lost) := ⟨rfl, rfl, rfl, by decide +kernel, rfl, by decide +kernel, by decide +kernel⟩
theorem ok_most_lost {f : Addr} {fd : FuncData} (F : Fun K "most_lost" "most_lost" s_most_lost f fd) (B : Bi mg) (C_look_at_many : Def P w K mg base "look_at_many" 2 ["many"] 1 m_look_at_many) (C_is_int : Def P w K mg base "is_int" 1 ["value", "low", "high"] 3 m_is_int) (I_MOST_COUNTED : ∃ t, mg "MOST_COUNTED" = some (.int 1000000 t)) : FnOk P w K mg base CX0 3 f fd ["many", "packets"] (spF K 2 m_most_lost) := by
  obtain ⟨f_look_at_many, fd_look_at_many, F_look_at_many, g_look_at_many, k_look_at_many, d_look_at_many⟩ := C_look_at_many
  obtain ⟨f_is_int, fd_is_int, F_is_int, g_is_int, k_is_int, d_is_int⟩ := C_is_int
  obtain ⟨t_MOST_COUNTED, g_MOST_COUNTED⟩ := I_MOST_COUNTED
  refine def_okN 2 (sb := b_most_lost) F sc_most_lost rfl rfl rfl fun cdv A outer s H E hr => ⟨_, (pvb_cons (pvs_expr (pv_callK K F_look_at_many (hr.mono (by decide)) (by rfl) g_look_at_many k_look_at_many d_look_at_many (pva_cons (pv_var 0) pva_nil))) (pvb_cons (pvs_if (pvt_not (pvt_val (pv_callK K F_is_int (hr.mono (by decide)) (by rfl) g_is_int k_is_int d_is_int (pva_cons (pv_var 1) (pva_cons pv_int (pva_cons (pv_globI (by rfl) g_MOST_COUNTED ⟨_, rfl⟩) pva_nil)))))) (pvb_one pvs_no) pvb_nil) (pvb_one (pvs_ret (pv_div (pv_var 1) (pv_addK K (pv_var 0) pv_int))))))⟩
abbrev s_told_amounts : Stmt := topS 18
abbrev N_told_amounts : List Str := ["flows", "found", "flow"]
theorem sc_told_amounts : FnScope N_told_amounts ["flows"] (defScope s_told_amounts) := ⟨rfl, rfl, rfl, by decide +kernel, rfl, by decide +kernel, by decide +kernel⟩
theorem ok_told_amounts {f : Addr} {fd : FuncData} (F : Fun K "told_amounts" "told_amounts" s_told_amounts f fd) (B : Bi mg) : FnOk P w K mg base CX0 1 f fd ["flows"] (spF K 1 m_told_amounts) := by
  refine def_okN 0 (sb := b_told_amounts) F sc_told_amounts rfl rfl rfl fun cdv A outer s H E hr => ⟨_, (pvb_cons (pvs_set 1 sc_told_amounts.nd pv_dnew) (pvb_cons (pvs_for PassesOwn.never rfl (pvi_tup (pv_var 0)) (pvg_name 2 sc_told_amounts.nd) (pvb_one (pvs_dput (hu_of hr) (pv_var 1) (pv_var 2) (pv_addK K (pv_dgetx (hu_of hr) (pv_var 1) (pv_var 2) pv_int ⟨rfl, rfl, rfl, rfl⟩) pv_int)))) (pvb_one (pvs_ret (pv_var 1)))))⟩
abbrev s_told_heavy : Stmt := topS 22
abbrev N_told_heavy : List Str := ["flows", "parts", "counts", "flow"]
theorem sc_told_heavy : FnScope N_told_heavy ["flows", "parts"] (defScope s_told_heavy) := ⟨rfl, rfl, rfl, by decide +kernel, rfl, by decide +kernel, by decide +kernel⟩
theorem ok_told_heavy {f : Addr} {fd : FuncData} (F : Fun K "told_heavy" "told_heavy" s_told_heavy f fd) (B : Bi mg) (C_told_amounts : Def P w K mg base "told_amounts" 1 ["flows"] 1 m_told_amounts) : FnOk P w K mg base CX0 2 f fd ["flows", "parts"] (spF K 2 m_told_heavy) := by
  obtain ⟨f_told_amounts, fd_told_amounts, F_told_amounts, g_told_amounts, k_told_amounts, d_told_amounts⟩ := C_told_amounts
  refine def_okN 1 (sb := b_told_heavy) F sc_told_heavy rfl rfl rfl fun cdv A outer s H E hr => ⟨_, (pvb_cons (pvs_set 2 sc_told_heavy.nd (pv_callK K F_told_amounts (hr.mono (by decide)) (by rfl) g_told_amounts k_told_amounts d_told_amounts (pva_cons (pv_var 0) pva_nil)) (hx := Or.inr rfl)) (pvb_one (pvs_ret (pv_callTy (cr_tupleK K) tuple_ok (by rfl) B.tuple_ (by decide +kernel) (pva_cons (pv_callB (cr_sortedK K) sorted_ok (by rfl) B.sorted_ (by decide +kernel) (pva_cons (pv_lock 2 (pv_lc (own := [("flow", 3)]) rfl sc_told_heavy.nd (pvi_keys (pv_var 2)) (blkOk_by (own := [("flow", 3)]) (N := N_told_heavy) (sc := defScope s_told_heavy) (by decide +kernel)) (fun _ _ _ _ _ => (pvg_name 3 sc_told_heavy.nd)) (own_name (by decide)) (fun _ _ _ _ _ => (pvts_one (pvt_cmp op_gt gt_ok (pv_mulK K (pv_dget (hu_of hr) (pv_var 2) (pv_var 3) (fun _ _ => rfl)) (pv_var 1)) (pv_lenK K (by rfl) B.len_ (pv_var 0)) (nomark _)))) (fun _ _ _ _ _ => (pv_var 3)) s H)) pva_nil)) pva_nil)))))⟩
abbrev s_heavy : Stmt := topS 23
abbrev N_heavy : List Str := ["flows", "parts"]
theorem sc_heavy : FnScope N_heavy ["flows", "parts"] (defScope s_heavy) := ⟨rfl, rfl, rfl, by decide +kernel, rfl, by decide +kernel, by decide +kernel⟩
theorem ok_heavy {f : Addr} {fd : FuncData} (F : Fun K "heavy" "heavy" s_heavy f fd) (B : Bi mg) (C_look_at_flows : Def P w K mg base "look_at_flows" 3 ["flows"] 1 m_look_at_flows) (C_is_int : Def P w K mg base "is_int" 1 ["value", "low", "high"] 3 m_is_int) (C_told_heavy : Def P w K mg base "told_heavy" 2 ["flows", "parts"] 2 m_told_heavy) (I_MOST_COUNTERS : ∃ t, mg "MOST_COUNTERS" = some (.int 20 t)) : FnOk P w K mg base CX0 4 f fd ["flows", "parts"] (spF K 2 m_heavy) := by
  obtain ⟨f_look_at_flows, fd_look_at_flows, F_look_at_flows, g_look_at_flows, k_look_at_flows, d_look_at_flows⟩ := C_look_at_flows
  obtain ⟨f_is_int, fd_is_int, F_is_int, g_is_int, k_is_int, d_is_int⟩ := C_is_int
  obtain ⟨f_told_heavy, fd_told_heavy, F_told_heavy, g_told_heavy, k_told_heavy, d_told_heavy⟩ := C_told_heavy
  obtain ⟨t_MOST_COUNTERS, g_MOST_COUNTERS⟩ := I_MOST_COUNTERS
  refine def_okN 3 (sb := b_heavy) F sc_heavy rfl rfl rfl fun cdv A outer s H E hr => ⟨_, (pvb_cons (pvs_expr (pv_callK K F_look_at_flows (hr.mono (by decide)) (by rfl) g_look_at_flows k_look_at_flows d_look_at_flows (pva_cons (pv_var 0) pva_nil))) (pvb_cons (pvs_if (pvt_not (pvt_val (pv_callK K F_is_int (hr.mono (by decide)) (by rfl) g_is_int k_is_int d_is_int (pva_cons (pv_var 1) (pva_cons pv_int (pva_cons (pv_addK K (pv_globI (by rfl) g_MOST_COUNTERS ⟨_, rfl⟩) pv_int) pva_nil)))))) (pvb_one pvs_no) pvb_nil) (pvb_one (pvs_ret (pv_callK K F_told_heavy (hr.mono (by decide)) (by rfl) g_told_heavy k_told_heavy d_told_heavy (pva_cons (pv_var 0) (pva_cons (pv_var 1) pva_nil)))))))⟩
abbrev s_sure_by : Stmt := topS 24
abbrev N_sure_by : List Str := ["many", "flows", "flow", "found", "lessened", "count"]
theorem sc_sure_by : FnScope N_sure_by ["many", "flows", "flow"] (defScope s_sure_by) := ⟨rfl, rfl, rfl, by decide +kernel, rfl, by decide +kernel, by decide +kernel⟩
theorem ok_sure_by {f : Addr} {fd : FuncData} (F : Fun K "sure_by" "sure_by" s_sure_by f fd) (B : Bi mg) (C_look_at_many : Def P w K mg base "look_at_many" 2 ["many"] 1 m_look_at_many) (C_look_at_flows : Def P w K mg base "look_at_flows" 3 ["flows"] 1 m_look_at_flows) (C_is_int : Def P w K mg base "is_int" 1 ["value", "low", "high"] 3 m_is_int) (C_told_counters : Def P w K mg base "told_counters" 1 ["many", "flows"] 2 m_told_counters) (I_LIGHT : ∃ t, mg "LIGHT" = some (.str "light" t)) (I_MOST_FLOW : ∃ t, mg "MOST_FLOW" = some (.int 1000 t)) (I_SURE : ∃ t, mg "SURE" = some (.str "sure" t)) : FnOk P w K mg base CX0 4 f fd ["many", "flows", "flow"] (spF K 3 m_sure_by) := by
  obtain ⟨f_look_at_many, fd_look_at_many, F_look_at_many, g_look_at_many, k_look_at_many, d_look_at_many⟩ := C_look_at_many
  obtain ⟨f_look_at_flows, fd_look_at_flows, F_look_at_flows, g_look_at_flows, k_look_at_flows, d_look_at_flows⟩ := C_look_at_flows
  obtain ⟨f_is_int, fd_is_int, F_is_int, g_is_int, k_is_int, d_is_int⟩ := C_is_int
  obtain ⟨f_told_counters, fd_told_counters, F_told_counters, g_told_counters, k_told_counters, d_told_counters⟩ := C_told_counters
  obtain ⟨t_LIGHT, g_LIGHT⟩ := I_LIGHT
  obtain ⟨t_MOST_FLOW, g_MOST_FLOW⟩ := I_MOST_FLOW
  obtain ⟨t_SURE, g_SURE⟩ := I_SURE
  refine def_okN 3 (sb := b_sure_by) F sc_sure_by rfl rfl rfl fun cdv A outer s H E hr => ⟨_, (pvb_cons (pvs_expr (pv_callK K F_look_at_many (hr.mono (by decide)) (by rfl) g_look_at_many k_look_at_many d_look_at_many (pva_cons (pv_var 0) pva_nil))) (pvb_cons (pvs_expr (pv_callK K F_look_at_flows (hr.mono (by decide)) (by rfl) g_look_at_flows k_look_at_flows d_look_at_flows (pva_cons (pv_var 1) pva_nil))) (pvb_cons (pvs_if (pvt_not (pvt_val (pv_callK K F_is_int (hr.mono (by decide)) (by rfl) g_is_int k_is_int d_is_int (pva_cons (pv_var 2) (pva_cons pv_int (pva_cons (pv_globI (by rfl) g_MOST_FLOW ⟨_, rfl⟩) pva_nil)))))) (pvb_one pvs_no) pvb_nil) (pvb_cons (pvs_asg (pv_callK K F_told_counters (hr.mono (by decide)) (by rfl) g_told_counters k_told_counters d_told_counters (pva_cons (pv_var 0) (pva_cons (pv_var 1) pva_nil))) (pvg_tupK K rfl (pvg_cons (pvg_name 3 sc_sure_by.nd) (pvg_cons (pvg_name 4 sc_sure_by.nd) pvg_nil)))) (pvb_cons (pvs_set 5 sc_sure_by.nd (pv_dgetx (hu_of hr) (pv_var 3) (pv_var 2) pv_int ⟨rfl, rfl, rfl, rfl⟩)) (pvb_cons (pvs_if (pvt_cmp op_gt gt_ok (pv_mulI (pv_var 5) (pv_addK K (pv_var 0) pv_int)) (pv_lenK K (by rfl) B.len_ (pv_var 1)) (nomark _)) (pvb_one (pvs_ret (pv_globS (by rfl) g_SURE ⟨_, rfl⟩))) pvb_nil) (pvb_one (pvs_ret (pv_if (pvt_cmp op_le le_ok (pv_mulI (pv_addK K (pv_var 5) (pv_var 4)) (pv_addK K (pv_var 0) pv_int)) (pv_lenK K (by rfl) B.len_ (pv_var 1)) (nomark _)) (pv_globS (by rfl) g_LIGHT ⟨_, rfl⟩) pv_non)))))))))⟩
abbrev s__law_are_turns_right : Stmt := topS 33
abbrev N__law_are_turns_right : List Str := ["pot", "many", "rounds", "names", "few", "more", "due", "lone", "others", "mixed", "told", "flow", "packet"]
theorem sc__law_are_turns_right : FnScope N__law_are_turns_right ["pot", "many"] (defScope s__law_are_turns_right) := ⟨rfl, rfl, rfl, by decide +kernel, rfl, by decide +kernel, by decide +kernel⟩
theorem ok__law_are_turns_right {f : Addr} {fd : FuncData} (F : Fun K "_law_are_turns_right" "_law_are_turns_right" s__law_are_turns_right f fd) (B : Bi mg) (C__law_take : Def P w K mg base "_law_take" 1 ["pot", "upto"] 2 m__law_take) (C__law_some : Def P w K mg base "_law_some" 2 ["pot", "pool", "many"] 3 m__law_some) (C_counters : Def P w K mg base "counters" 4 ["many", "flows"] 2 m_counters) (C_most_lost : Def P w K mg base "most_lost" 3 ["many", "packets"] 2 m_most_lost) (C_heavy : Def P w K mg base "heavy" 4 ["flows", "parts"] 2 m_heavy) (C_sure_by : Def P w K mg base "sure_by" 4 ["many", "flows", "flow"] 3 m_sure_by) : FnOk P w K mg base CX0 5 f fd ["pot", "many"] (spF K 2 m__law_are_turns_right) := by
  obtain ⟨f__law_take, fd__law_take, F__law_take, g__law_take, k__law_take, d__law_take⟩ := C__law_take
  obtain ⟨f__law_some, fd__law_some, F__law_some, g__law_some, k__law_some, d__law_some⟩ := C__law_some
  obtain ⟨f_counters, fd_counters, F_counters, g_counters, k_counters, d_counters⟩ := C_counters
  obtain ⟨f_most_lost, fd_most_lost, F_most_lost, g_most_lost, k_most_lost, d_most_lost⟩ := C_most_lost
  obtain ⟨f_heavy, fd_heavy, F_heavy, g_heavy, k_heavy, d_heavy⟩ := C_heavy
  obtain ⟨f_sure_by, fd_sure_by, F_sure_by, g_sure_by, k_sure_by, d_sure_by⟩ := C_sure_by
  refine def_okN 4 (sb := b__law_are_turns_right) F sc__law_are_turns_right rfl rfl rfl fun cdv A outer s H E hr => ⟨_, (pvb_cons (pvs_set 2 sc__law_are_turns_right.nd (pv_callTy call_int1 int_ok (by rfl) B.int_ (by decide +kernel) (pva_cons (pv_callK K F__law_take (hr.mono (by decide)) (by rfl) g__law_take k__law_take d__law_take (pva_cons (pv_var 0) (pva_cons pv_int pva_nil))) pva_nil)) (hx := Or.inr rfl)) (pvb_cons (pvs_set 3 sc__law_are_turns_right.nd (pv_lc (own := [("flow", 11)]) rfl sc__law_are_turns_right.nd (pvi_list (pv_callK K F__law_some (hr.mono (by decide)) (by rfl) g__law_some k__law_some d__law_some (pva_cons (pv_var 0) (pva_cons (pv_lrg1 rfl (by rfl) B.list_ (by rfl) B.range_ pv_int) (pva_cons (pv_addK K (pv_var 1) pv_int) pva_nil))))) (blkOk_by (own := [("flow", 11)]) (N := N__law_are_turns_right) (sc := defScope s__law_are_turns_right) (by decide +kernel)) (fun _ _ _ _ _ => (pvg_name 11 sc__law_are_turns_right.nd)) (own_name (by decide)) (fun _ _ _ _ _ => pvts_nil) (fun _ _ _ _ _ => (pv_callTy call_int1 int_ok (by rfl) B.int_ (by decide +kernel) (pva_cons (pv_var 11) pva_nil))) s H) (hx := Or.inr rfl)) (pvb_cons (pvs_par rfl sc__law_are_turns_right.nd (by decide) rfl rfl (pva_cons (pv_mulK K (pv_callTy (cr_tupleK K) tuple_ok (by rfl) B.tuple_ (by decide +kernel) (pva_cons (pv_sliceK K (pv_var 3) pvo_none (pvo_some (pv_var 1))) pva_nil)) (pv_var 2)) (pva_cons (pv_mulK K (pv_callTy (cr_tupleK K) tuple_ok (by rfl) B.tuple_ (by decide +kernel) (pva_cons (pv_var 3) pva_nil)) (pv_var 2)) pva_nil)) (by rfl)) (pvb_cons (pvs_set 6 sc__law_are_turns_right.nd (pv_if (pvt_cmp op_gt gt_ok (pv_var 2) pv_int (nomark _)) (pv_callTy (cr_tupleK K) tuple_ok (by rfl) B.tuple_ (by decide +kernel) (pva_cons (pv_callB (cr_sortedK K) sorted_ok (by rfl) B.sorted_ (by decide +kernel) (pva_cons (pv_lc (own := [("flow", 11)]) rfl sc__law_are_turns_right.nd (pvi_list (pv_sliceK K (pv_var 3) pvo_none (pvo_some (pv_var 1)))) (blkOk_by (own := [("flow", 11)]) (N := N__law_are_turns_right) (sc := defScope s__law_are_turns_right) (by decide +kernel)) (fun _ _ _ _ _ => (pvg_name 11 sc__law_are_turns_right.nd)) (own_name (by decide)) (fun _ _ _ _ _ => pvts_nil) (fun _ _ _ _ _ => (pv_tup (pva_cons (pv_var 11) (pva_cons (pv_var 2) pva_nil)))) s H) pva_nil)) pva_nil)) (pv_tup pva_nil))) (pvb_cons (pvs_if (PVW.pt (pvw_or (pvt_cmp (op_neDK K hr.units) ne_ok (pv_callK K F_counters (hr.mono (by decide)) (by rfl) g_counters k_counters d_counters (pva_cons (pv_var 1) (pva_cons (pv_var 4) pva_nil))) (pv_tup (pva_cons (pv_var 6) (pva_cons pv_int pva_nil))) (nomark _)) (pvw_or1 (pvt_cmp (op_neDK K hr.units) ne_ok (pv_callK K F_counters (hr.mono (by decide)) (by rfl) g_counters k_counters d_counters (pva_cons (pv_var 1) (pva_cons (pv_var 5) pva_nil))) (pv_tup (pva_cons (pv_tup pva_nil) (pva_cons (pv_var 2) pva_nil))) (nomark _))))) (pvb_one (pvs_ret pv_bl)) pvb_nil) (pvb_cons (pvs_if (PVW.pt (pvw_or (pvt_cmp (op_neDK K hr.units) ne_ok (pv_callK K F_most_lost (hr.mono (by decide)) (by rfl) g_most_lost k_most_lost d_most_lost (pva_cons (pv_var 1) (pva_cons (pv_lenK K (by rfl) B.len_ (pv_var 5)) pva_nil))) (pv_var 2) (nomark _)) (pvw_or1 (pvt_cmp (op_neDK K hr.units) ne_ok (pv_callK K F_most_lost (hr.mono (by decide)) (by rfl) g_most_lost k_most_lost d_most_lost (pva_cons (pv_var 1) (pva_cons (pv_lenK K (by rfl) B.len_ (pv_var 4)) pva_nil))) (pv_div (pv_lenK K (by rfl) B.len_ (pv_var 4)) (pv_addK K (pv_var 1) pv_int)) (nomark _))))) (pvb_one (pvs_ret pv_bl)) pvb_nil) (pvb_cons (pvs_if (PVW.pt (pvw_or (pvt_cmp (op_neDK K hr.units) ne_ok (pv_callK K F_heavy (hr.mono (by decide)) (by rfl) g_heavy k_heavy d_heavy (pva_cons (pv_var 5) (pva_cons (pv_addK K (pv_var 1) pv_int) pva_nil))) (pv_tup pva_nil) (nomark _)) (pvw_or1 (pvt_cmp (op_neDK K hr.units) ne_ok (pv_callK K F_heavy (hr.mono (by decide)) (by rfl) g_heavy k_heavy d_heavy (pva_cons (pv_addK K (pv_var 5) (pv_callTy (cr_tupleK K) tuple_ok (by rfl) B.tuple_ (by decide +kernel) (pva_cons (pv_sliceK K (pv_var 3) pvo_none (pvo_some pv_int)) pva_nil))) (pva_cons (pv_addK K (pv_var 1) pv_int) pva_nil))) (pv_callTy (cr_tupleK K) tuple_ok (by rfl) B.tuple_ (by decide +kernel) (pva_cons (pv_sliceK K (pv_var 3) pvo_none (pvo_some pv_int)) pva_nil)) (nomark _))))) (pvb_one (pvs_ret pv_bl)) pvb_nil) (pvb_cons (pvs_set 7 sc__law_are_turns_right.nd (pv_mulK K (pv_tup (pva_cons (pv_ixsK K (pv_var 3) pv_int (fun _ _ => rfl)) pva_nil)) (pv_addK K (pv_var 2) pv_int))) (pvb_cons (pvs_if (PVW.pt (pvw_or (pvt_cmp (op_neDK K hr.units) ne_ok (pv_callK K F_counters (hr.mono (by decide)) (by rfl) g_counters k_counters d_counters (pva_cons (pv_var 1) (pva_cons (pv_var 7) pva_nil))) (pv_tup (pva_cons (pv_tup (pva_cons (pv_tup (pva_cons (pv_ixsK K (pv_var 3) pv_int (fun _ _ => rfl)) (pva_cons (pv_addK K (pv_var 2) pv_int) pva_nil))) pva_nil)) (pva_cons pv_int pva_nil))) (nomark _)) (pvw_or1 (pvt_cmp (op_neDK K hr.units) ne_ok (pv_callK K F_sure_by (hr.mono (by decide)) (by rfl) g_sure_by k_sure_by d_sure_by (pva_cons (pv_var 1) (pva_cons (pv_var 7) (pva_cons (pv_ixsK K (pv_var 3) pv_int (fun _ _ => rfl)) pva_nil)))) pv_str (nomark _))))) (pvb_one (pvs_ret pv_bl)) pvb_nil) (pvb_cons (pvs_set 8 sc__law_are_turns_right.nd (pv_callTy (cr_tupleK K) tuple_ok (by rfl) B.tuple_ (by decide +kernel) (pva_cons (pv_lc (own := [("packet", 12)]) rfl sc__law_are_turns_right.nd (pvi_range1 (by rfl) B.range_ (pva_cons (pv_var 2) pva_nil)) (blkOk_by (own := [("packet", 12)]) (N := N__law_are_turns_right) (sc := defScope s__law_are_turns_right) (by decide +kernel)) (fun _ _ _ _ _ => (pvg_name 12 sc__law_are_turns_right.nd)) (own_name (by decide)) (fun _ _ _ _ _ => pvts_nil) (fun _ _ _ _ _ => (pv_ixsK K (pv_var 3) (pv_addK K pv_int (pv_callTy call_int1 int_ok (by rfl) B.int_ (by decide +kernel) (pva_cons (pv_callK K F__law_take (hr.mono (by decide)) (by rfl) g__law_take k__law_take d__law_take (pva_cons (pv_var 0) (pva_cons (pv_var 1) pva_nil))) pva_nil))) (fun _ _ => rfl))) s H) pva_nil))) (pvb_cons (pvs_set 9 sc__law_are_turns_right.nd (pv_callTy (cr_tupleK K) tuple_ok (by rfl) B.tuple_ (by decide +kernel) (pva_cons (pv_callK K F__law_some (hr.mono (by decide)) (by rfl) g__law_some k__law_some d__law_some (pva_cons (pv_var 0) (pva_cons (pv_callTy (cr_listK K) list_ok (by rfl) B.list_ (by decide +kernel) (pva_cons (pv_addK K (pv_var 7) (pv_var 8)) pva_nil)) (pva_cons (pv_addK K (pv_mulI pv_int (pv_var 2)) pv_int) pva_nil)))) pva_nil))) (pvb_cons (pvs_set 10 sc__law_are_turns_right.nd (pv_callK K F_counters (hr.mono (by decide)) (by rfl) g_counters k_counters d_counters (pva_cons pv_int (pva_cons (pv_var 9) pva_nil)))) (pvb_cons (pvs_if (PVW.pt (pvw_or (pvt_cmp (op_neDK K hr.units) ne_ok (pv_lenK K (by rfl) B.len_ (pv_ixsK K (pv_var 10) pv_int (fun _ _ => rfl))) pv_int (nomark _)) (pvw_or (pvt_cmp (op_neDK K hr.units) ne_ok (pv_ixsK K (pv_ixsK K (pv_ixsK K (pv_var 10) pv_int (fun _ _ => rfl)) pv_int (fun _ _ => rfl)) pv_int (fun _ _ => rfl)) (pv_ixsK K (pv_var 3) pv_int (fun _ _ => rfl)) (nomark _)) (pvw_or1 (pvt_cmp (op_neDK K hr.units) ne_ok (pv_callK K F_heavy (hr.mono (by decide)) (by rfl) g_heavy k_heavy d_heavy (pva_cons (pv_var 9) (pva_cons pv_int pva_nil))) (pv_tup (pva_cons (pv_ixsK K (pv_var 3) pv_int (fun _ _ => rfl)) pva_nil)) (nomark _)))))) (pvb_one (pvs_ret pv_bl)) pvb_nil) (pvb_one (pvs_ret (pv_eqK K hr.units (pv_addK K (pv_ixsK K (pv_ixsK K (pv_ixsK K (pv_var 10) pv_int (fun _ _ => rfl)) pv_int (fun _ _ => rfl)) pv_int (fun _ _ => rfl)) (pv_mulI pv_int (pv_ixsK K (pv_var 10) pv_int (fun _ _ => rfl)))) (pv_lenK K (by rfl) B.len_ (pv_var 9))))))))))))))))))⟩
abbrev s__law_are_blocks_right : Stmt := topS 34
abbrev N__law_are_blocks_right : List Str := ["pot", "many", "names", "blocks", "flows", "name", "size", "told", "total", "lost", "whole", "flow", "much", "word", "due", "parts"]
theorem sc__law_are_blocks_right : FnScope N__law_are_blocks_right ["pot", "many"] (defScope s__law_are_blocks_right) := ⟨rfl, rfl, rfl, by decide +kernel, rfl, by decide +kernel, by decide +kernel⟩
theorem ok__law_are_blocks_right {f : Addr} {fd : FuncData} (F : Fun K "_law_are_blocks_right" "_law_are_blocks_right" s__law_are_blocks_right f fd) (B : Bi mg) (C__law_some : Def P w K mg base "_law_some" 2 ["pot", "pool", "many"] 3 m__law_some) (C__law_take : Def P w K mg base "_law_take" 1 ["pot", "upto"] 2 m__law_take) (C_counters : Def P w K mg base "counters" 4 ["many", "flows"] 2 m_counters) (C__law_go : Def P w K mg base "_law_go" 1 ["many", "flows"] 2 m__law_go) (C_most_lost : Def P w K mg base "most_lost" 3 ["many", "packets"] 2 m_most_lost) (C_sure_by : Def P w K mg base "sure_by" 4 ["many", "flows", "flow"] 3 m_sure_by) (C_heavy : Def P w K mg base "heavy" 4 ["flows", "parts"] 2 m_heavy) : FnOk P w K mg base CX0 5 f fd ["pot", "many"] (spF K 2 m__law_are_blocks_right) := by
  obtain ⟨f__law_some, fd__law_some, F__law_some, g__law_some, k__law_some, d__law_some⟩ := C__law_some
  obtain ⟨f__law_take, fd__law_take, F__law_take, g__law_take, k__law_take, d__law_take⟩ := C__law_take
  obtain ⟨f_counters, fd_counters, F_counters, g_counters, k_counters, d_counters⟩ := C_counters
  obtain ⟨f__law_go, fd__law_go, F__law_go, g__law_go, k__law_go, d__law_go⟩ := C__law_go
  obtain ⟨f_most_lost, fd_most_lost, F_most_lost, g_most_lost, k_most_lost, d_most_lost⟩ := C_most_lost
  obtain ⟨f_sure_by, fd_sure_by, F_sure_by, g_sure_by, k_sure_by, d_sure_by⟩ := C_sure_by
  obtain ⟨f_heavy, fd_heavy, F_heavy, g_heavy, k_heavy, d_heavy⟩ := C_heavy
  refine def_okN 4 (sb := b__law_are_blocks_right) F sc__law_are_blocks_right rfl rfl rfl fun cdv A outer s H E hr => ⟨_, (pvb_cons (pvs_setLc (own := [("flow", 11)]) 2 rfl sc__law_are_blocks_right.nd rfl rfl (pvi_list (pv_callK K F__law_some (hr.mono (by decide)) (by rfl) g__law_some k__law_some d__law_some (pva_cons (pv_var 0) (pva_cons (pv_lrg1 rfl (by rfl) B.list_ (by rfl) B.range_ pv_int) (pva_cons (pv_callB (call_min2 rfl) min2_ok (by rfl) B.min_ (by decide +kernel) (pva_cons pv_int (pva_cons (pv_addK K (pv_var 1) pv_int) pva_nil))) pva_nil))))) (blkOk_by (own := [("flow", 11)]) (N := N__law_are_blocks_right) (sc := defScope s__law_are_blocks_right) (by decide +kernel)) (fun _ _ _ _ _ => (pvg_name 11 sc__law_are_blocks_right.nd)) (own_name (by decide)) (fun _ _ _ _ _ => pvts_nil) (fun _ _ _ _ _ => (pv_callTy call_int1 int_ok (by rfl) B.int_ (by decide +kernel) (pva_cons (pv_var 11) pva_nil))) s H) (pvb_cons (pvs_setLc (own := [("flow", 11)]) 3 rfl sc__law_are_blocks_right.nd rfl rfl (pvi_list (pv_var 2)) (blkOk_by (own := [("flow", 11)]) (N := N__law_are_blocks_right) (sc := defScope s__law_are_blocks_right) (by decide +kernel)) (fun _ _ _ _ _ => (pvg_name 11 sc__law_are_blocks_right.nd)) (own_name (by decide)) (fun _ _ _ _ _ => pvts_nil) (fun _ _ _ _ _ => (pv_addK K pv_int (pv_callTy call_int1 int_ok (by rfl) B.int_ (by decide +kernel) (pva_cons (pv_callK K F__law_take (hr.mono (by decide)) (by rfl) g__law_take k__law_take d__law_take (pva_cons (pv_var 0) (pva_cons pv_int pva_nil))) pva_nil)))) s H) (pvb_cons (pvs_set 4 sc__law_are_blocks_right.nd (pv_tup pva_nil) (hx := Or.inr rfl)) (pvb_cons (pvs_for PassesOwn.never rfl (pvi_zip (by rfl) B.zip_ (pva_cons (pv_var 2) (pva_cons (pv_var 3) pva_nil))) (pvg_tupK K rfl (pvg_cons (pvg_name 5 sc__law_are_blocks_right.nd) (pvg_cons (pvg_name 6 sc__law_are_blocks_right.nd) pvg_nil))) (pvb_one (pvs_set 4 sc__law_are_blocks_right.nd (pv_addK K (pv_var 4) (pv_mulK K (pv_tup (pva_cons (pv_var 5) pva_nil)) (pv_var 6))) (hx := Or.inr rfl)))) (pvb_cons (pvs_set 7 sc__law_are_blocks_right.nd (pv_callK K F_counters (hr.mono (by decide)) (by rfl) g_counters k_counters d_counters (pva_cons (pv_var 1) (pva_cons (pv_var 4) pva_nil))) (hx := Or.inr rfl)) (pvb_cons (pvs_if (PVW.pt (pvw_or (pvt_cmp (op_neDK K hr.units) ne_ok (pv_var 7) (pv_callK K F__law_go (hr.mono (by decide)) (by rfl) g__law_go k__law_go d__law_go (pva_cons (pv_var 1) (pva_cons (pv_var 4) pva_nil))) (nomark _)) (pvw_or1 (pvt_cmp op_gt gt_ok (pv_ixsK K (pv_var 7) pv_int (fun _ _ => rfl)) (pv_callK K F_most_lost (hr.mono (by decide)) (by rfl) g_most_lost k_most_lost d_most_lost (pva_cons (pv_var 1) (pva_cons (pv_lenK K (by rfl) B.len_ (pv_var 4)) pva_nil))) (nomark _))))) (pvb_one (pvs_ret pv_bl)) pvb_nil) (pvb_cons (pvs_par rfl sc__law_are_blocks_right.nd (by decide) rfl rfl (pva_cons (pv_callB (cr_sumK K rfl) sum_ok (by rfl) B.sum_ (by decide +kernel) (pva_cons (pv_lc (own := [("flow", 11), ("much", 12)]) rfl sc__law_are_blocks_right.nd (pvi_tup (pv_ixsK K (pv_var 7) pv_int (fun _ _ => rfl))) (blkOk_by (own := [("flow", 11), ("much", 12)]) (N := N__law_are_blocks_right) (sc := defScope s__law_are_blocks_right) (by decide +kernel)) (fun _ _ _ _ _ => (pvg_tupK K rfl (pvg_cons (pvg_name 11 sc__law_are_blocks_right.nd) (pvg_cons (pvg_name 12 sc__law_are_blocks_right.nd) pvg_nil)))) (own_tup (own_cons (own_name (by decide)) (own_cons (own_name (by decide)) own_nil))) (fun _ _ _ _ _ => pvts_nil) (fun _ _ _ _ _ => (pv_var 12)) s H) pva_nil)) (pva_cons (pv_mulI (pv_ixsK K (pv_var 7) pv_int (fun _ _ => rfl)) (pv_addK K (pv_var 1) pv_int)) pva_nil)) (by rfl)) (pvb_cons (pvs_if (pvt_cmp (op_neDK K hr.units) ne_ok (pv_addK K (pv_var 8) (pv_var 9)) (pv_lenK K (by rfl) B.len_ (pv_var 4)) (nomark _)) (pvb_one (pvs_ret pv_bl)) pvb_nil) (pvb_cons (pvs_set 10 sc__law_are_blocks_right.nd (pv_callTy (cr_dictLK K rfl) dict_ok (by rfl) B.dict_ (by decide +kernel) (pva_cons (pv_lzip rfl (by rfl) B.list_ (by rfl) B.zip_ (pva_cons (pv_var 2) (pva_cons (pv_var 3) pva_nil))) pva_nil)) (hx := Or.inr rfl)) (pvb_cons (pvs_for PassesOwn.never rfl (pvi_zip (by rfl) B.zip_ (pva_cons (pv_var 2) (pva_cons (pv_var 3) pva_nil))) (pvg_tupK K rfl (pvg_cons (pvg_name 11 sc__law_are_blocks_right.nd) (pvg_cons (pvg_name 6 sc__law_are_blocks_right.nd) pvg_nil))) (pvb_cons (pvs_set 12 sc__law_are_blocks_right.nd (pv_dgetx (hu_of hr) (pv_callTy (cr_dictLK K rfl) dict_ok (by rfl) B.dict_ (by decide +kernel) (pva_cons (pv_callTy (cr_listK K) list_ok (by rfl) B.list_ (by decide +kernel) (pva_cons (pv_ixsK K (pv_var 7) pv_int (fun _ _ => rfl)) pva_nil)) pva_nil)) (pv_var 11) pv_int ⟨rfl, rfl, rfl, rfl⟩)) (pvb_cons (pvs_if (pvt_not (pvt_chain op_le le_ok op_le le_ok (pv_sub (pv_var 6) (pv_ixsK K (pv_var 7) pv_int (fun _ _ => rfl))) (pv_var 12) (pv_var 6))) (pvb_one (pvs_ret pv_bl)) pvb_nil) (pvb_cons (pvs_set 13 sc__law_are_blocks_right.nd (pv_callK K F_sure_by (hr.mono (by decide)) (by rfl) g_sure_by k_sure_by d_sure_by (pva_cons (pv_var 1) (pva_cons (pv_var 4) (pva_cons (pv_var 11) pva_nil))))) (pvb_cons (pvs_set 14 sc__law_are_blocks_right.nd (pv_if (pvt_cmp op_le le_ok (pv_mulI (pv_addK K (pv_var 12) (pv_ixsK K (pv_var 7) pv_int (fun _ _ => rfl))) (pv_addK K (pv_var 1) pv_int)) (pv_lenK K (by rfl) B.len_ (pv_var 4)) (nomark _)) pv_str pv_non)) (pvb_cons (pvs_set 14 sc__law_are_blocks_right.nd (pv_if (pvt_cmp op_gt gt_ok (pv_mulI (pv_var 12) (pv_addK K (pv_var 1) pv_int)) (pv_lenK K (by rfl) B.len_ (pv_var 4)) (nomark _)) pv_str (pv_var 14))) (pvb_cons (pvs_if (PVW.pt (pvw_or (pvt_cmp (op_neDK K hr.units) ne_ok (pv_callB cr_repr repr_ok (by rfl) B.repr_ (by decide +kernel) (pva_cons (pv_var 13) pva_nil)) (pv_callB cr_repr repr_ok (by rfl) B.repr_ (by decide +kernel) (pva_cons (pv_var 14) pva_nil)) (nomark _)) (pvw_or1 (PVW.pt (pvw_and (pvt_cmp (op_eqDK K hr.units) eq_ok (pv_var 13) pv_str (nomark _)) (pvw_and1 (pvt_cmp op_le le_ok (pv_mulI (pv_var 6) (pv_addK K (pv_var 1) pv_int)) (pv_lenK K (by rfl) B.len_ (pv_var 4)) (nomark _)))))))) (pvb_one (pvs_ret pv_bl)) pvb_nil) (pvb_one (pvs_if (PVW.pt (pvw_and (pvt_cmp (op_eqDK K hr.units) eq_ok (pv_var 13) pv_str (nomark _)) (pvw_and1 (pvt_cmp op_gt gt_ok (pv_mulI (pv_var 6) (pv_addK K (pv_var 1) pv_int)) (pv_lenK K (by rfl) B.len_ (pv_var 4)) (nomark _))))) (pvb_one (pvs_ret pv_bl)) pvb_nil))))))))) (pvb_cons (pvs_set 15 sc__law_are_blocks_right.nd (pv_addK K pv_int (pv_callTy call_int1 int_ok (by rfl) B.int_ (by decide +kernel) (pva_cons (pv_callK K F__law_take (hr.mono (by decide)) (by rfl) g__law_take k__law_take d__law_take (pva_cons (pv_var 0) (pva_cons pv_int pva_nil))) pva_nil))) (hx := Or.inr rfl)) (pvb_cons (pvs_if (pvt_cmp (op_neDK K hr.units) ne_ok (pv_callTy (cr_listK K) list_ok (by rfl) B.list_ (by decide +kernel) (pva_cons (pv_callK K F_heavy (hr.mono (by decide)) (by rfl) g_heavy k_heavy d_heavy (pva_cons (pv_var 4) (pva_cons (pv_var 15) pva_nil))) pva_nil)) (pv_callB (cr_sortedK K) sorted_ok (by rfl) B.sorted_ (by decide +kernel) (pva_cons (pv_lock 10 (pv_lc (own := [("flow", 11)]) rfl sc__law_are_blocks_right.nd (pvi_keys (pv_var 10)) (blkOk_by (own := [("flow", 11)]) (N := N__law_are_blocks_right) (sc := defScope s__law_are_blocks_right) (by decide +kernel)) (fun _ _ _ _ _ => (pvg_name 11 sc__law_are_blocks_right.nd)) (own_name (by decide)) (fun _ _ _ _ _ => (pvts_one (pvt_cmp op_gt gt_ok (pv_mulK K (pv_dget (hu_of hr) (pv_var 10) (pv_var 11) (fun _ _ => rfl)) (pv_var 15)) (pv_lenK K (by rfl) B.len_ (pv_var 4)) (nomark _)))) (fun _ _ _ _ _ => (pv_var 11)) s H)) pva_nil)) (nomark _)) (pvb_one (pvs_ret pv_bl)) pvb_nil) (pvb_one (pvs_ret (pv_callB (cr_allK K rfl) all_ok (by rfl) B.all_ (by decide +kernel) (pva_cons (pv_lc (own := [("flow", 11)]) rfl sc__law_are_blocks_right.nd (pvi_tup (pv_callK K F_heavy (hr.mono (by decide)) (by rfl) g_heavy k_heavy d_heavy (pva_cons (pv_var 4) (pva_cons (pv_addK K (pv_var 1) pv_int) pva_nil)))) (blkOk_by (own := [("flow", 11)]) (N := N__law_are_blocks_right) (sc := defScope s__law_are_blocks_right) (by decide +kernel)) (fun _ _ _ _ _ => (pvg_name 11 sc__law_are_blocks_right.nd)) (own_name (by decide)) (fun _ _ _ _ _ => pvts_nil) (fun _ _ _ _ _ => (pv_din (hu_of hr) (pv_var 11) (pv_callTy (cr_dictLK K rfl) dict_ok (by rfl) B.dict_ (by decide +kernel) (pva_cons (pv_callTy (cr_listK K) list_ok (by rfl) B.list_ (by decide +kernel) (pva_cons (pv_ixsK K (pv_var 7) pv_int (fun _ _ => rfl)) pva_nil)) pva_nil)))) s H) pva_nil))))))))))))))))⟩
abbrev s_law : Stmt := topS 36
abbrev N_law : List Str := ["script", "place", "pot", "lap", "many"]
theorem sc_law : FnScope N_law ["script"] (defScope s_law) := ⟨rfl, rfl, rfl, by decide +kernel, rfl, by decide +kernel, by decide +kernel⟩
theorem ok_law {f : Addr} {fd : FuncData} (F : Fun K "law" "law" s_law f fd) (B : Bi mg) (C__law_cells : Def P w K mg base "_law_cells" 1 ["script", "most"] 2 m__law_cells) (C__law_pot : Def P w K mg base "_law_pot" 1 ["script", "place"] 2 m__law_pot) (C__law_take : Def P w K mg base "_law_take" 1 ["pot", "upto"] 2 m__law_take) (C__law_of : Def P w K mg base "_law_of" 2 ["pot", "some"] 2 m__law_of) (C__law_are_turns_right : Def P w K mg base "_law_are_turns_right" 5 ["pot", "many"] 2 m__law_are_turns_right) (C__law_are_blocks_right : Def P w K mg base "_law_are_blocks_right" 5 ["pot", "many"] 2 m__law_are_blocks_right) (C__law_are_lots_right : Def P w K mg base "_law_are_lots_right" 5 ["pot", "many"] 2 m__law_are_lots_right) : FnOk P w K mg base CX0 6 f fd ["script"] (spF K 1 m_law) := by
  obtain ⟨f__law_cells, fd__law_cells, F__law_cells, g__law_cells, k__law_cells, d__law_cells⟩ := C__law_cells
  obtain ⟨f__law_pot, fd__law_pot, F__law_pot, g__law_pot, k__law_pot, d__law_pot⟩ := C__law_pot
  obtain ⟨f__law_take, fd__law_take, F__law_take, g__law_take, k__law_take, d__law_take⟩ := C__law_take
  obtain ⟨f__law_of, fd__law_of, F__law_of, g__law_of, k__law_of, d__law_of⟩ := C__law_of
  obtain ⟨f__law_are_turns_right, fd__law_are_turns_right, F__law_are_turns_right, g__law_are_turns_right, k__law_are_turns_right, d__law_are_turns_right⟩ := C__law_are_turns_right
  obtain ⟨f__law_are_blocks_right, fd__law_are_blocks_right, F__law_are_blocks_right, g__law_are_blocks_right, k__law_are_blocks_right, d__law_are_blocks_right⟩ := C__law_are_blocks_right
  obtain ⟨f__law_are_lots_right, fd__law_are_lots_right, F__law_are_lots_right, g__law_are_lots_right, k__law_are_lots_right, d__law_are_lots_right⟩ := C__law_are_lots_right
  refine def_okN 5 (sb := b_law) F sc_law rfl rfl rfl fun cdv A outer s H E hr => ⟨_, (pvb_cons (pvs_for PassesOwn.never rfl (pvi_list (pv_callK K F__law_cells (hr.mono (by decide)) (by rfl) g__law_cells k__law_cells d__law_cells (pva_cons (pv_var 0) (pva_cons pv_int pva_nil)))) (pvg_name 1 sc_law.nd) (pvb_cons (pvs_set 2 sc_law.nd (pv_callK K F__law_pot (hr.mono (by decide)) (by rfl) g__law_pot k__law_pot d__law_pot (pva_cons (pv_var 0) (pva_cons (pv_var 1) pva_nil)))) (pvb_one (pvs_for PassesOwn.never rfl (pvi_range1 (by rfl) B.range_ (pva_cons pv_int pva_nil)) (pvg_name 3 sc_law.nd) (pvb_cons (pvs_set 4 sc_law.nd (pv_addK K pv_int (pv_callTy call_int1 int_ok (by rfl) B.int_ (by decide +kernel) (pva_cons (pv_callK K F__law_take (hr.mono (by decide)) (by rfl) g__law_take k__law_take d__law_take (pva_cons (pv_var 2) (pva_cons (pv_callK K F__law_of (hr.mono (by decide)) (by rfl) g__law_of k__law_of d__law_of (pva_cons (pv_var 2) (pva_cons (pv_lst (pva_cons pv_int (pva_cons pv_int pva_nil))) pva_nil))) pva_nil))) pva_nil)))) (pvb_cons (pvs_if (PVW.pt (pvw_or (pvt_not (pvt_val (pv_callK K F__law_are_turns_right (hr.mono (by decide)) (by rfl) g__law_are_turns_right k__law_are_turns_right d__law_are_turns_right (pva_cons (pv_var 2) (pva_cons (pv_var 4) pva_nil))))) (pvw_or1 (pvt_not (pvt_val (pv_callK K F__law_are_blocks_right (hr.mono (by decide)) (by rfl) g__law_are_blocks_right k__law_are_blocks_right d__law_are_blocks_right (pva_cons (pv_var 2) (pva_cons (pv_var 4) pva_nil)))))))) (pvb_one (pvs_ret pv_bl)) pvb_nil) (pvb_one (pvs_if (pvt_not (pvt_val (pv_callK K F__law_are_lots_right (hr.mono (by decide)) (by rfl) g__law_are_lots_right k__law_are_lots_right d__law_are_lots_right (pva_cons (pv_var 2) (pva_cons (pv_var 4) pva_nil))))) (pvb_one (pvs_ret pv_bl)) pvb_nil)))))))) (pvb_one (pvs_ret pv_bl)))⟩
end
theorem Def.mk {P : Program} {w : World} {K : PySem.W.Frag} {h : Heap} {mg : Str → Option Value} {base : Heap} {x : Str} {k n : Nat} {ps : List Str} {g : DF} {f : Addr} {fd : FuncData} (X : K.In h) (G : h.Ns mainGlobals mg) (F : FnOk P w K mg base CX0 k f fd ps (spF K n g))
    (a : PySem.W.nsIn K mainGlobals x = some (some (.ref f))) (kp : PySem.W.keepIn K (.ref f) = true) (b : Binds K fd ps []) : Def P w K mg base x k ps n g := ⟨f, fd, F, PySem.W.mg_of X G a, kp, b⟩
/-- what the law asks of its walk -/
def lawSp (K : PySem.W.Frag) : Sp := spF K 1 m_law
theorem all_mk {l : PySem.W.OpenLaw} {w : World} {K : PySem.W.Frag} {h : Heap} {mg : Str → Option Value} {fa : Addr} (X : K.In h) (G : h.Ns mainGlobals mg) (hfa : mg "law" = some (.ref fa))
    {f0 : Addr} {od0 an0 : Option Addr} {sl0 : Array (Option Value)} {oc0 kV0 dc0 pm0 cd0 ct0 : Value}
    (a0 : PySem.W.nsIn K mainGlobals "_law_cells" = some (some (.ref f0))) (l0 : K.lookup f0 = some ⟨oc0, od0, .func (PySem.W.fnOf "_law_cells" "_law_cells" (defArgs s__law_cells) (defBody s__law_cells) (defScope s__law_cells) .none kV0 dc0 pm0 an0 cd0 ct0), sl0⟩) (c0 : PySem.W.codeIn K cd0 "_law_cells" = true) (k0 : PySem.W.keepIn K (.ref f0) = true)
    {f1 : Addr} {od1 an1 : Option Addr} {sl1 : Array (Option Value)} {oc1 kV1 dc1 pm1 cd1 ct1 : Value}
    (a1 : PySem.W.nsIn K mainGlobals "_law_pot" = some (some (.ref f1))) (l1 : K.lookup f1 = some ⟨oc1, od1, .func (PySem.W.fnOf "_law_pot" "_law_pot" (defArgs s__law_pot) (defBody s__law_pot) (defScope s__law_pot) .none kV1 dc1 pm1 an1 cd1 ct1), sl1⟩) (c1 : PySem.W.codeIn K cd1 "_law_pot" = true) (k1 : PySem.W.keepIn K (.ref f1) = true)
    {f2 : Addr} {od2 an2 : Option Addr} {sl2 : Array (Option Value)} {oc2 kV2 dc2 pm2 cd2 ct2 : Value}
    (a2 : PySem.W.nsIn K mainGlobals "is_int" = some (some (.ref f2))) (l2 : K.lookup f2 = some ⟨oc2, od2, .func (PySem.W.fnOf "is_int" "is_int" (defArgs s_is_int) (defBody s_is_int) (defScope s_is_int) .none kV2 dc2 pm2 an2 cd2 ct2), sl2⟩) (c2 : PySem.W.codeIn K cd2 "is_int" = true) (k2 : PySem.W.keepIn K (.ref f2) = true)
    {f3 : Addr} {od3 an3 : Option Addr} {sl3 : Array (Option Value)} {oc3 kV3 dc3 pm3 cd3 ct3 : Value}
    (a3 : PySem.W.nsIn K mainGlobals "look_at_many" = some (some (.ref f3))) (l3 : K.lookup f3 = some ⟨oc3, od3, .func (PySem.W.fnOf "look_at_many" "look_at_many" (defArgs s_look_at_many) (defBody s_look_at_many) (defScope s_look_at_many) .none kV3 dc3 pm3 an3 cd3 ct3), sl3⟩) (c3 : PySem.W.codeIn K cd3 "look_at_many" = true) (k3 : PySem.W.keepIn K (.ref f3) = true)
    {f4 : Addr} {od4 an4 : Option Addr} {sl4 : Array (Option Value)} {oc4 kV4 dc4 pm4 cd4 ct4 : Value}
    (a4 : PySem.W.nsIn K mainGlobals "are_counters" = some (some (.ref f4))) (l4 : K.lookup f4 = some ⟨oc4, od4, .func (PySem.W.fnOf "are_counters" "are_counters" (defArgs s_are_counters) (defBody s_are_counters) (defScope s_are_counters) .none kV4 dc4 pm4 an4 cd4 ct4), sl4⟩) (c4 : PySem.W.codeIn K cd4 "are_counters" = true) (k4 : PySem.W.keepIn K (.ref f4) = true)
    {f5 : Addr} {od5 an5 : Option Addr} {sl5 : Array (Option Value)} {oc5 kV5 dc5 pm5 cd5 ct5 : Value}
    (a5 : PySem.W.nsIn K mainGlobals "merged" = some (some (.ref f5))) (l5 : K.lookup f5 = some ⟨oc5, od5, .func (PySem.W.fnOf "merged" "merged" (defArgs s_merged) (defBody s_merged) (defScope s_merged) .none kV5 dc5 pm5 an5 cd5 ct5), sl5⟩) (c5 : PySem.W.codeIn K cd5 "merged" = true) (k5 : PySem.W.keepIn K (.ref f5) = true)
    {f6 : Addr} {od6 an6 : Option Addr} {sl6 : Array (Option Value)} {oc6 kV6 dc6 pm6 cd6 ct6 : Value}
    (a6 : PySem.W.nsIn K mainGlobals "are_flows" = some (some (.ref f6))) (l6 : K.lookup f6 = some ⟨oc6, od6, .func (PySem.W.fnOf "are_flows" "are_flows" (defArgs s_are_flows) (defBody s_are_flows) (defScope s_are_flows) .none kV6 dc6 pm6 an6 cd6 ct6), sl6⟩) (c6 : PySem.W.codeIn K cd6 "are_flows" = true) (k6 : PySem.W.keepIn K (.ref f6) = true)
    {f7 : Addr} {od7 an7 : Option Addr} {sl7 : Array (Option Value)} {oc7 kV7 dc7 pm7 cd7 ct7 : Value}
    (a7 : PySem.W.nsIn K mainGlobals "look_at_flows" = some (some (.ref f7))) (l7 : K.lookup f7 = some ⟨oc7, od7, .func (PySem.W.fnOf "look_at_flows" "look_at_flows" (defArgs s_look_at_flows) (defBody s_look_at_flows) (defScope s_look_at_flows) .none kV7 dc7 pm7 an7 cd7 ct7), sl7⟩) (c7 : PySem.W.codeIn K cd7 "look_at_flows" = true) (k7 : PySem.W.keepIn K (.ref f7) = true)
    {f8 : Addr} {od8 an8 : Option Addr} {sl8 : Array (Option Value)} {oc8 kV8 dc8 pm8 cd8 ct8 : Value}
    (a8 : PySem.W.nsIn K mainGlobals "told_counters" = some (some (.ref f8))) (l8 : K.lookup f8 = some ⟨oc8, od8, .func (PySem.W.fnOf "told_counters" "told_counters" (defArgs s_told_counters) (defBody s_told_counters) (defScope s_told_counters) .none kV8 dc8 pm8 an8 cd8 ct8), sl8⟩) (c8 : PySem.W.codeIn K cd8 "told_counters" = true) (k8 : PySem.W.keepIn K (.ref f8) = true)
    {f9 : Addr} {od9 an9 : Option Addr} {sl9 : Array (Option Value)} {oc9 kV9 dc9 pm9 cd9 ct9 : Value}
    (a9 : PySem.W.nsIn K mainGlobals "counters" = some (some (.ref f9))) (l9 : K.lookup f9 = some ⟨oc9, od9, .func (PySem.W.fnOf "counters" "counters" (defArgs s_counters) (defBody s_counters) (defScope s_counters) .none kV9 dc9 pm9 an9 cd9 ct9), sl9⟩) (c9 : PySem.W.codeIn K cd9 "counters" = true) (k9 : PySem.W.keepIn K (.ref f9) = true)
    {f10 : Addr} {od10 an10 : Option Addr} {sl10 : Array (Option Value)} {oc10 kV10 dc10 pm10 cd10 ct10 : Value}
    (a10 : PySem.W.nsIn K mainGlobals "_law_take" = some (some (.ref f10))) (l10 : K.lookup f10 = some ⟨oc10, od10, .func (PySem.W.fnOf "_law_take" "_law_take" (defArgs s__law_take) (defBody s__law_take) (defScope s__law_take) .none kV10 dc10 pm10 an10 cd10 ct10), sl10⟩) (c10 : PySem.W.codeIn K cd10 "_law_take" = true) (k10 : PySem.W.keepIn K (.ref f10) = true)
    {f11 : Addr} {od11 an11 : Option Addr} {sl11 : Array (Option Value)} {oc11 kV11 dc11 pm11 cd11 ct11 : Value}
    (a11 : PySem.W.nsIn K mainGlobals "_law_some" = some (some (.ref f11))) (l11 : K.lookup f11 = some ⟨oc11, od11, .func (PySem.W.fnOf "_law_some" "_law_some" (defArgs s__law_some) (defBody s__law_some) (defScope s__law_some) .none kV11 dc11 pm11 an11 cd11 ct11), sl11⟩) (c11 : PySem.W.codeIn K cd11 "_law_some" = true) (k11 : PySem.W.keepIn K (.ref f11) = true)
    {f12 : Addr} {od12 an12 : Option Addr} {sl12 : Array (Option Value)} {oc12 kV12 dc12 pm12 cd12 ct12 : Value}
    (a12 : PySem.W.nsIn K mainGlobals "_law_go" = some (some (.ref f12))) (l12 : K.lookup f12 = some ⟨oc12, od12, .func (PySem.W.fnOf "_law_go" "_law_go" (defArgs s__law_go) (defBody s__law_go) (defScope s__law_go) .none kV12 dc12 pm12 an12 cd12 ct12), sl12⟩) (c12 : PySem.W.codeIn K cd12 "_law_go" = true) (k12 : PySem.W.keepIn K (.ref f12) = true)
    {f13 : Addr} {od13 an13 : Option Addr} {sl13 : Array (Option Value)} {oc13 kV13 dc13 pm13 cd13 ct13 : Value}
    (a13 : PySem.W.nsIn K mainGlobals "_law_of" = some (some (.ref f13))) (l13 : K.lookup f13 = some ⟨oc13, od13, .func (PySem.W.fnOf "_law_of" "_law_of" (defArgs s__law_of) (defBody s__law_of) (defScope s__law_of) .none kV13 dc13 pm13 an13 cd13 ct13), sl13⟩) (c13 : PySem.W.codeIn K cd13 "_law_of" = true) (k13 : PySem.W.keepIn K (.ref f13) = true)
    {f14 : Addr} {od14 an14 : Option Addr} {sl14 : Array (Option Value)} {oc14 kV14 dc14 pm14 cd14 ct14 : Value}
    (a14 : PySem.W.nsIn K mainGlobals "_law_are_lots_right" = some (some (.ref f14))) (l14 : K.lookup f14 = some ⟨oc14, od14, .func (PySem.W.fnOf "_law_are_lots_right" "_law_are_lots_right" (defArgs s__law_are_lots_right) (defBody s__law_are_lots_right) (defScope s__law_are_lots_right) .none kV14 dc14 pm14 an14 cd14 ct14), sl14⟩) (c14 : PySem.W.codeIn K cd14 "_law_are_lots_right" = true) (k14 : PySem.W.keepIn K (.ref f14) = true)
    {f15 : Addr} {od15 an15 : Option Addr} {sl15 : Array (Option Value)} {oc15 kV15 dc15 pm15 cd15 ct15 : Value}
    (a15 : PySem.W.nsIn K mainGlobals "most_lost" = some (some (.ref f15))) (l15 : K.lookup f15 = some ⟨oc15, od15, .func (PySem.W.fnOf "most_lost" "most_lost" (defArgs s_most_lost) (defBody s_most_lost) (defScope s_most_lost) .none kV15 dc15 pm15 an15 cd15 ct15), sl15⟩) (c15 : PySem.W.codeIn K cd15 "most_lost" = true) (k15 : PySem.W.keepIn K (.ref f15) = true)
    {f16 : Addr} {od16 an16 : Option Addr} {sl16 : Array (Option Value)} {oc16 kV16 dc16 pm16 cd16 ct16 : Value}
    (a16 : PySem.W.nsIn K mainGlobals "told_amounts" = some (some (.ref f16))) (l16 : K.lookup f16 = some ⟨oc16, od16, .func (PySem.W.fnOf "told_amounts" "told_amounts" (defArgs s_told_amounts) (defBody s_told_amounts) (defScope s_told_amounts) .none kV16 dc16 pm16 an16 cd16 ct16), sl16⟩) (c16 : PySem.W.codeIn K cd16 "told_amounts" = true) (k16 : PySem.W.keepIn K (.ref f16) = true)
    {f17 : Addr} {od17 an17 : Option Addr} {sl17 : Array (Option Value)} {oc17 kV17 dc17 pm17 cd17 ct17 : Value}
    (a17 : PySem.W.nsIn K mainGlobals "told_heavy" = some (some (.ref f17))) (l17 : K.lookup f17 = some ⟨oc17, od17, .func (PySem.W.fnOf "told_heavy" "told_heavy" (defArgs s_told_heavy) (defBody s_told_heavy) (defScope s_told_heavy) .none kV17 dc17 pm17 an17 cd17 ct17), sl17⟩) (c17 : PySem.W.codeIn K cd17 "told_heavy" = true) (k17 : PySem.W.keepIn K (.ref f17) = true)
    {f18 : Addr} {od18 an18 : Option Addr} {sl18 : Array (Option Value)} {oc18 kV18 dc18 pm18 cd18 ct18 : Value}
    (a18 : PySem.W.nsIn K mainGlobals "heavy" = some (some (.ref f18))) (l18 : K.lookup f18 = some ⟨oc18, od18, .func (PySem.W.fnOf "heavy" "heavy" (defArgs s_heavy) (defBody s_heavy) (defScope s_heavy) .none kV18 dc18 pm18 an18 cd18 ct18), sl18⟩) (c18 : PySem.W.codeIn K cd18 "heavy" = true) (k18 : PySem.W.keepIn K (.ref f18) = true)
    {f19 : Addr} {od19 an19 : Option Addr} {sl19 : Array (Option Value)} {oc19 kV19 dc19 pm19 cd19 ct19 : Value}
    (a19 : PySem.W.nsIn K mainGlobals "sure_by" = some (some (.ref f19))) (l19 : K.lookup f19 = some ⟨oc19, od19, .func (PySem.W.fnOf "sure_by" "sure_by" (defArgs s_sure_by) (defBody s_sure_by) (defScope s_sure_by) .none kV19 dc19 pm19 an19 cd19 ct19), sl19⟩) (c19 : PySem.W.codeIn K cd19 "sure_by" = true) (k19 : PySem.W.keepIn K (.ref f19) = true)
    {f20 : Addr} {od20 an20 : Option Addr} {sl20 : Array (Option Value)} {oc20 kV20 dc20 pm20 cd20 ct20 : Value}
    (a20 : PySem.W.nsIn K mainGlobals "_law_are_turns_right" = some (some (.ref f20))) (l20 : K.lookup f20 = some ⟨oc20, od20, .func (PySem.W.fnOf "_law_are_turns_right" "_law_are_turns_right" (defArgs s__law_are_turns_right) (defBody s__law_are_turns_right) (defScope s__law_are_turns_right) .none kV20 dc20 pm20 an20 cd20 ct20), sl20⟩) (c20 : PySem.W.codeIn K cd20 "_law_are_turns_right" = true) (k20 : PySem.W.keepIn K (.ref f20) = true)
    {f21 : Addr} {od21 an21 : Option Addr} {sl21 : Array (Option Value)} {oc21 kV21 dc21 pm21 cd21 ct21 : Value}
    (a21 : PySem.W.nsIn K mainGlobals "_law_are_blocks_right" = some (some (.ref f21))) (l21 : K.lookup f21 = some ⟨oc21, od21, .func (PySem.W.fnOf "_law_are_blocks_right" "_law_are_blocks_right" (defArgs s__law_are_blocks_right) (defBody s__law_are_blocks_right) (defScope s__law_are_blocks_right) .none kV21 dc21 pm21 an21 cd21 ct21), sl21⟩) (c21 : PySem.W.codeIn K cd21 "_law_are_blocks_right" = true) (k21 : PySem.W.keepIn K (.ref f21) = true)
    {f22 : Addr} {od22 an22 : Option Addr} {sl22 : Array (Option Value)} {oc22 kV22 dc22 pm22 cd22 ct22 : Value}
    (a22 : PySem.W.nsIn K mainGlobals "law" = some (some (.ref f22))) (l22 : K.lookup f22 = some ⟨oc22, od22, .func (PySem.W.fnOf "law" "law" (defArgs s_law) (defBody s_law) (defScope s_law) .none kV22 dc22 pm22 an22 cd22 ct22), sl22⟩) (c22 : PySem.W.codeIn K cd22 "law" = true) (k22 : PySem.W.keepIn K (.ref f22) = true)
    {t_LIGHT : Tok} (v_LIGHT : PySem.W.nsIn K mainGlobals "LIGHT" = some (some (.str "light" t_LIGHT)))
    {t_MOST_COUNTED : Tok} (v_MOST_COUNTED : PySem.W.nsIn K mainGlobals "MOST_COUNTED" = some (some (.int 1000000 t_MOST_COUNTED)))
    {t_MOST_COUNTERS : Tok} (v_MOST_COUNTERS : PySem.W.nsIn K mainGlobals "MOST_COUNTERS" = some (some (.int 20 t_MOST_COUNTERS)))
    {t_MOST_FLOW : Tok} (v_MOST_FLOW : PySem.W.nsIn K mainGlobals "MOST_FLOW" = some (some (.int 1000 t_MOST_FLOW)))
    {t_MOST_FLOWS : Tok} (v_MOST_FLOWS : PySem.W.nsIn K mainGlobals "MOST_FLOWS" = some (some (.int 500 t_MOST_FLOWS)))
    {t_SURE : Tok} (v_SURE : PySem.W.nsIn K mainGlobals "SURE" = some (some (.str "sure" t_SURE)))
    (z_abs : PySem.W.nsIn K mainGlobals "abs" = some none)
    (z_all : PySem.W.nsIn K mainGlobals "all" = some none)
    (z_bool : PySem.W.nsIn K mainGlobals "bool" = some none)
    (z_dict : PySem.W.nsIn K mainGlobals "dict" = some none)
    (z_int : PySem.W.nsIn K mainGlobals "int" = some none)
    (z_isinstance : PySem.W.nsIn K mainGlobals "isinstance" = some none)
    (z_len : PySem.W.nsIn K mainGlobals "len" = some none)
    (z_list : PySem.W.nsIn K mainGlobals "list" = some none)
    (z_max : PySem.W.nsIn K mainGlobals "max" = some none)
    (z_min : PySem.W.nsIn K mainGlobals "min" = some none)
    (z_range : PySem.W.nsIn K mainGlobals "range" = some none)
    (z_repr : PySem.W.nsIn K mainGlobals "repr" = some none)
    (z_sorted : PySem.W.nsIn K mainGlobals "sorted" = some none)
    (z_sum : PySem.W.nsIn K mainGlobals "sum" = some none)
    (z_tuple : PySem.W.nsIn K mainGlobals "tuple" = some none)
    (z_zip : PySem.W.nsIn K mainGlobals "zip" = some none) :
    ∃ fd : FuncData, (∀ (s : Shared) (v : Value), BindsTo s fd ⟨[v], []⟩ [("script", v)]) ∧ ∀ base : Heap, K.In base → base.Ns mainGlobals mg → FnOk l.prog w K mg base CX0 6 fa fd ["script"] (lawSp K) := by
  have e := hfa.symm.trans (PySem.W.mg_of X G a22)
  cases e
  have B : Bi mg := ⟨PySem.W.mg_none_of X G z_abs, PySem.W.mg_none_of X G z_all, PySem.W.mg_none_of X G z_bool, PySem.W.mg_none_of X G z_dict, PySem.W.mg_none_of X G z_int, PySem.W.mg_none_of X G z_isinstance, PySem.W.mg_none_of X G z_len, PySem.W.mg_none_of X G z_list, PySem.W.mg_none_of X G z_max, PySem.W.mg_none_of X G z_min, PySem.W.mg_none_of X G z_range, PySem.W.mg_none_of X G z_repr, PySem.W.mg_none_of X G z_sorted, PySem.W.mg_none_of X G z_sum, PySem.W.mg_none_of X G z_tuple, PySem.W.mg_none_of X G z_zip⟩
  refine ⟨PySem.W.fnOf "law" "law" (defArgs s_law) (defBody s_law) (defScope s_law) .none kV22 dc22 pm22 an22 cd22 ct22, fun s v => .of_eq rfl, fun base _ _ => ?_⟩
  have F0 := fun_mk (st := s__law_cells) l0 c0 k0
  have C__law_cells : Def l.prog w K mg base "_law_cells" 1 ["script", "most"] 2 m__law_cells := Def.mk X G (ok__law_cells F0 B ) a0 k0 (F0.binds (ps := ["script", "most"]) fun _ _ _ _ _ _ us hl => match us, hl with | [_, _], _ => rfl)
  have F1 := fun_mk (st := s__law_pot) l1 c1 k1
  have C__law_pot : Def l.prog w K mg base "_law_pot" 1 ["script", "place"] 2 m__law_pot := Def.mk X G (ok__law_pot F1 B ) a1 k1 (F1.binds (ps := ["script", "place"]) fun _ _ _ _ _ _ us hl => match us, hl with | [_, _], _ => rfl)
  have F2 := fun_mk (st := s_is_int) l2 c2 k2
  have C_is_int : Def l.prog w K mg base "is_int" 1 ["value", "low", "high"] 3 m_is_int := Def.mk X G (ok_is_int F2 B ) a2 k2 (F2.binds (ps := ["value", "low", "high"]) fun _ _ _ _ _ _ us hl => match us, hl with | [_, _, _], _ => rfl)
  have F3 := fun_mk (st := s_look_at_many) l3 c3 k3
  have C_look_at_many : Def l.prog w K mg base "look_at_many" 2 ["many"] 1 m_look_at_many := Def.mk X G (ok_look_at_many F3 B C_is_int ⟨_, PySem.W.mg_of X G v_MOST_COUNTERS⟩) a3 k3 (F3.binds (ps := ["many"]) fun _ _ _ _ _ _ us hl => match us, hl with | [_], _ => rfl)
  have F4 := fun_mk (st := s_are_counters) l4 c4 k4
  have C_are_counters : Def l.prog w K mg base "are_counters" 2 ["value"] 1 m_are_counters := Def.mk X G (ok_are_counters F4 B C_is_int ⟨_, PySem.W.mg_of X G v_MOST_COUNTED⟩ ⟨_, PySem.W.mg_of X G v_MOST_COUNTERS⟩ ⟨_, PySem.W.mg_of X G v_MOST_FLOW⟩) a4 k4 (F4.binds (ps := ["value"]) fun _ _ _ _ _ _ us hl => match us, hl with | [_], _ => rfl)
  have F5 := fun_mk (st := s_merged) l5 c5 k5
  have C_merged : Def l.prog w K mg base "merged" 3 ["many", "one", "other"] 3 m_merged := Def.mk X G (ok_merged F5 B C_look_at_many C_are_counters) a5 k5 (F5.binds (ps := ["many", "one", "other"]) fun _ _ _ _ _ _ us hl => match us, hl with | [_, _, _], _ => rfl)
  have F6 := fun_mk (st := s_are_flows) l6 c6 k6
  have C_are_flows : Def l.prog w K mg base "are_flows" 2 ["value"] 1 m_are_flows := Def.mk X G (ok_are_flows F6 B C_is_int ⟨_, PySem.W.mg_of X G v_MOST_FLOW⟩ ⟨_, PySem.W.mg_of X G v_MOST_FLOWS⟩) a6 k6 (F6.binds (ps := ["value"]) fun _ _ _ _ _ _ us hl => match us, hl with | [_], _ => rfl)
  have F7 := fun_mk (st := s_look_at_flows) l7 c7 k7
  have C_look_at_flows : Def l.prog w K mg base "look_at_flows" 3 ["flows"] 1 m_look_at_flows := Def.mk X G (ok_look_at_flows F7 B C_are_flows) a7 k7 (F7.binds (ps := ["flows"]) fun _ _ _ _ _ _ us hl => match us, hl with | [_], _ => rfl)
  have F8 := fun_mk (st := s_told_counters) l8 c8 k8
  have C_told_counters : Def l.prog w K mg base "told_counters" 1 ["many", "flows"] 2 m_told_counters := Def.mk X G (ok_told_counters F8 B ) a8 k8 (F8.binds (ps := ["many", "flows"]) fun _ _ _ _ _ _ us hl => match us, hl with | [_, _], _ => rfl)
  have F9 := fun_mk (st := s_counters) l9 c9 k9
  have C_counters : Def l.prog w K mg base "counters" 4 ["many", "flows"] 2 m_counters := Def.mk X G (ok_counters F9 B C_look_at_many C_look_at_flows C_told_counters) a9 k9 (F9.binds (ps := ["many", "flows"]) fun _ _ _ _ _ _ us hl => match us, hl with | [_, _], _ => rfl)
  have F10 := fun_mk (st := s__law_take) l10 c10 k10
  have C__law_take : Def l.prog w K mg base "_law_take" 1 ["pot", "upto"] 2 m__law_take := Def.mk X G (ok__law_take F10 B ) a10 k10 (F10.binds (ps := ["pot", "upto"]) fun _ _ _ _ _ _ us hl => match us, hl with | [_, _], _ => rfl)
  have F11 := fun_mk (st := s__law_some) l11 c11 k11
  have C__law_some : Def l.prog w K mg base "_law_some" 2 ["pot", "pool", "many"] 3 m__law_some := Def.mk X G (ok__law_some F11 B C__law_take) a11 k11 (F11.binds (ps := ["pot", "pool", "many"]) fun _ _ _ _ _ _ us hl => match us, hl with | [_, _, _], _ => rfl)
  have F12 := fun_mk (st := s__law_go) l12 c12 k12
  have C__law_go : Def l.prog w K mg base "_law_go" 1 ["many", "flows"] 2 m__law_go := Def.mk X G (ok__law_go F12 B ) a12 k12 (F12.binds (ps := ["many", "flows"]) fun _ _ _ _ _ _ us hl => match us, hl with | [_, _], _ => rfl)
  have F13 := fun_mk (st := s__law_of) l13 c13 k13
  have C__law_of : Def l.prog w K mg base "_law_of" 2 ["pot", "some"] 2 m__law_of := Def.mk X G (ok__law_of F13 B C__law_take) a13 k13 (F13.binds (ps := ["pot", "some"]) fun _ _ _ _ _ _ us hl => match us, hl with | [_, _], _ => rfl)
  have F14 := fun_mk (st := s__law_are_lots_right) l14 c14 k14
  have C__law_are_lots_right : Def l.prog w K mg base "_law_are_lots_right" 5 ["pot", "many"] 2 m__law_are_lots_right := Def.mk X G (ok__law_are_lots_right F14 B C__law_take C__law_of C__law_some C_counters C__law_go C_merged) a14 k14 (F14.binds (ps := ["pot", "many"]) fun _ _ _ _ _ _ us hl => match us, hl with | [_, _], _ => rfl)
  have F15 := fun_mk (st := s_most_lost) l15 c15 k15
  have C_most_lost : Def l.prog w K mg base "most_lost" 3 ["many", "packets"] 2 m_most_lost := Def.mk X G (ok_most_lost F15 B C_look_at_many C_is_int ⟨_, PySem.W.mg_of X G v_MOST_COUNTED⟩) a15 k15 (F15.binds (ps := ["many", "packets"]) fun _ _ _ _ _ _ us hl => match us, hl with | [_, _], _ => rfl)
  have F16 := fun_mk (st := s_told_amounts) l16 c16 k16
  have C_told_amounts : Def l.prog w K mg base "told_amounts" 1 ["flows"] 1 m_told_amounts := Def.mk X G (ok_told_amounts F16 B ) a16 k16 (F16.binds (ps := ["flows"]) fun _ _ _ _ _ _ us hl => match us, hl with | [_], _ => rfl)
  have F17 := fun_mk (st := s_told_heavy) l17 c17 k17
  have C_told_heavy : Def l.prog w K mg base "told_heavy" 2 ["flows", "parts"] 2 m_told_heavy := Def.mk X G (ok_told_heavy F17 B C_told_amounts) a17 k17 (F17.binds (ps := ["flows", "parts"]) fun _ _ _ _ _ _ us hl => match us, hl with | [_, _], _ => rfl)
  have F18 := fun_mk (st := s_heavy) l18 c18 k18
  have C_heavy : Def l.prog w K mg base "heavy" 4 ["flows", "parts"] 2 m_heavy := Def.mk X G (ok_heavy F18 B C_look_at_flows C_is_int C_told_heavy ⟨_, PySem.W.mg_of X G v_MOST_COUNTERS⟩) a18 k18 (F18.binds (ps := ["flows", "parts"]) fun _ _ _ _ _ _ us hl => match us, hl with | [_, _], _ => rfl)
  have F19 := fun_mk (st := s_sure_by) l19 c19 k19
  have C_sure_by : Def l.prog w K mg base "sure_by" 4 ["many", "flows", "flow"] 3 m_sure_by := Def.mk X G (ok_sure_by F19 B C_look_at_many C_look_at_flows C_is_int C_told_counters ⟨_, PySem.W.mg_of X G v_LIGHT⟩ ⟨_, PySem.W.mg_of X G v_MOST_FLOW⟩ ⟨_, PySem.W.mg_of X G v_SURE⟩) a19 k19 (F19.binds (ps := ["many", "flows", "flow"]) fun _ _ _ _ _ _ us hl => match us, hl with | [_, _, _], _ => rfl)
  have F20 := fun_mk (st := s__law_are_turns_right) l20 c20 k20
  have C__law_are_turns_right : Def l.prog w K mg base "_law_are_turns_right" 5 ["pot", "many"] 2 m__law_are_turns_right := Def.mk X G (ok__law_are_turns_right F20 B C__law_take C__law_some C_counters C_most_lost C_heavy C_sure_by) a20 k20 (F20.binds (ps := ["pot", "many"]) fun _ _ _ _ _ _ us hl => match us, hl with | [_, _], _ => rfl)
  have F21 := fun_mk (st := s__law_are_blocks_right) l21 c21 k21
  have C__law_are_blocks_right : Def l.prog w K mg base "_law_are_blocks_right" 5 ["pot", "many"] 2 m__law_are_blocks_right := Def.mk X G (ok__law_are_blocks_right F21 B C__law_some C__law_take C_counters C__law_go C_most_lost C_sure_by C_heavy) a21 k21 (F21.binds (ps := ["pot", "many"]) fun _ _ _ _ _ _ us hl => match us, hl with | [_, _], _ => rfl)
  have F22 := fun_mk (st := s_law) l22 c22 k22
  exact ok_law F22 B C__law_cells C__law_pot C__law_take C__law_of C__law_are_turns_right C__law_are_blocks_right C__law_are_lots_right
end G66
set_option maxHeartbeats 4000000
/-! E66: the end. -/
namespace G66
open PySem PySem.Spec PyProof.Rows L2 Pv
theorem law_sp {K : PySem.W.Frag} {H : Hp} {a : Addr} {ns : List Int} (hO : Only H) (hS : SqL K H a (ns.map V.int)) : lawSp K [.ref a] H (fun v _ => v = .bl true) fun _ _ _ => False := by
  have hr : RoL K H a (ns.map V.int) := by
    rcases hS with (h | ⟨o, h⟩) | h
    · rcases hO a with e | ⟨o, xs, e⟩
      · rw [e] at h; cases h
      · rw [e] at h; cases h
    · exact .inl ⟨o, h⟩
    · exact .inr h
  refine ⟨[], [.ro (ns.map PyData.int)], [], .p (.bool true), [], rfl, .cons (.ro hr Rps.ints) .nil, ⟨rfl, List.nodup_nil, fun n a o e => by simp at e⟩, law_ok ns, fun v H' A' _ _ _ r => ?_⟩
  cases r with
  | p r => cases r; rfl
theorem walk {l : PySem.W.OpenLaw} {q : Program} {loose : List Str} {XP : (Str → Option Value) → Heap → Prop} {YP : World → Heap → Prop} {d : DefRec} {K : Params → PySem.W.Frag} (hn : l.most = some 63) (hdf : d.params.defaults = [])
    (hY : ∀ (w : World) (h : Heap), YP w h → (K w.params).In h)
    (F : ∀ (w : World) (mg : Str → Option Value) (fa : Addr) (h : Heap), (K w.params).In h → h.Ns mainGlobals mg → mg d.name = some (.ref fa) →
      ∃ fd : FuncData, (∀ (s : Shared) (u : Value), BindsTo s fd ⟨[u], []⟩ [("script", u)]) ∧ ∀ base : Heap, (K w.params).In base → base.Ns mainGlobals mg → FnOk l.prog w (K w.params) mg base CX0 6 fa fd ["script"] (lawSp (K w.params))) :
    PySem.W.WalkO q loose XP YP l.row.toRowW d [] (fun f vs => PySem.call f vs) :=
  L2.walk_of (n := 63) (k := 6) (x := "script") (CX := fun _ => CX0) (sp := fun w => lawSp (K w.params)) hn (by decide) hdf ⟨rfl, by decide, by decide⟩ hY F (fun _ _ _ _ _ hO hS => law_sp hO hS) fun _ _ _ _ _ z => z
end G66

open PySem PySem.W PyProof.Rows in
set_option maxRecDepth 100000 in
set_option maxHeartbeats 0 in
theorem PySem.Challenge.cw_howeveritpasses_k66_whole_counters_by_ro_holds : PySem.Challenge.rw_howeveritpasses_k66_whole_counters_by_ro.Holds := by
  w_on; o_law; k_head; (case hw => w_witness2)
  k_fill
  refine G66.walk (l := PySem.Challenge.rw_howeveritpasses_k66_whole_counters_by_ro) rfl rfl (fun w h Y => PySem.W.kIn_of Y) ?F
  case F =>
    intro w mg fa h KX G hmg
    refine' G66.all_mk KX G hmg ?a0 ?l0 ?c0 ?k0 ?a1 ?l1 ?c1 ?k1 ?a2 ?l2 ?c2 ?k2 ?a3 ?l3 ?c3 ?k3 ?a4 ?l4 ?c4 ?k4 ?a5 ?l5 ?c5 ?k5 ?a6 ?l6 ?c6 ?k6 ?a7 ?l7 ?c7 ?k7 ?a8 ?l8 ?c8 ?k8 ?a9 ?l9 ?c9 ?k9 ?a10 ?l10 ?c10 ?k10 ?a11 ?l11 ?c11 ?k11 ?a12 ?l12 ?c12 ?k12 ?a13 ?l13 ?c13 ?k13 ?a14 ?l14 ?c14 ?k14 ?a15 ?l15 ?c15 ?k15 ?a16 ?l16 ?c16 ?k16 ?a17 ?l17 ?c17 ?k17 ?a18 ?l18 ?c18 ?k18 ?a19 ?l19 ?c19 ?k19 ?a20 ?l20 ?c20 ?k20 ?a21 ?l21 ?c21 ?k21 ?a22 ?l22 ?c22 ?k22 ?v_LIGHT ?v_MOST_COUNTED ?v_MOST_COUNTERS ?v_MOST_FLOW ?v_MOST_FLOWS ?v_SURE ?z_abs ?z_all ?z_bool ?z_dict ?z_int ?z_isinstance ?z_len ?z_list ?z_max ?z_min ?z_range ?z_repr ?z_sorted ?z_sum ?z_tuple ?z_zip
    (case a0 => k_is)
    (case l0 => k_is)
    (case c0 => k_is)
    (case k0 => k_is)
    (case a1 => k_is)
    (case l1 => k_is)
    (case c1 => k_is)
    (case k1 => k_is)
    (case a2 => k_is)
    (case l2 => k_is)
    (case c2 => k_is)
    (case k2 => k_is)
    (case a3 => k_is)
    (case l3 => k_is)
    (case c3 => k_is)
    (case k3 => k_is)
    (case a4 => k_is)
    (case l4 => k_is)
    (case c4 => k_is)
    (case k4 => k_is)
    (case a5 => k_is)
    (case l5 => k_is)
    (case c5 => k_is)
    (case k5 => k_is)
    (case a6 => k_is)
    (case l6 => k_is)
    (case c6 => k_is)
    (case k6 => k_is)
    (case a7 => k_is)
    (case l7 => k_is)
    (case c7 => k_is)
    (case k7 => k_is)
    (case a8 => k_is)
    (case l8 => k_is)
    (case c8 => k_is)
    (case k8 => k_is)
    (case a9 => k_is)
    (case l9 => k_is)
    (case c9 => k_is)
    (case k9 => k_is)
    (case a10 => k_is)
    (case l10 => k_is)
    (case c10 => k_is)
    (case k10 => k_is)
    (case a11 => k_is)
    (case l11 => k_is)
    (case c11 => k_is)
    (case k11 => k_is)
    (case a12 => k_is)
    (case l12 => k_is)
    (case c12 => k_is)
    (case k12 => k_is)
    (case a13 => k_is)
    (case l13 => k_is)
    (case c13 => k_is)
    (case k13 => k_is)
    (case a14 => k_is)
    (case l14 => k_is)
    (case c14 => k_is)
    (case k14 => k_is)
    (case a15 => k_is)
    (case l15 => k_is)
    (case c15 => k_is)
    (case k15 => k_is)
    (case a16 => k_is)
    (case l16 => k_is)
    (case c16 => k_is)
    (case k16 => k_is)
    (case a17 => k_is)
    (case l17 => k_is)
    (case c17 => k_is)
    (case k17 => k_is)
    (case a18 => k_is)
    (case l18 => k_is)
    (case c18 => k_is)
    (case k18 => k_is)
    (case a19 => k_is)
    (case l19 => k_is)
    (case c19 => k_is)
    (case k19 => k_is)
    (case a20 => k_is)
    (case l20 => k_is)
    (case c20 => k_is)
    (case k20 => k_is)
    (case a21 => k_is)
    (case l21 => k_is)
    (case c21 => k_is)
    (case k21 => k_is)
    (case a22 => k_is)
    (case l22 => k_is)
    (case c22 => k_is)
    (case k22 => k_is)
    (case v_LIGHT => k_is)
    (case v_MOST_COUNTED => k_is)
    (case v_MOST_COUNTERS => k_is)
    (case v_MOST_FLOW => k_is)
    (case v_MOST_FLOWS => k_is)
    (case v_SURE => k_is)
    (case z_abs => k_is)
    (case z_all => k_is)
    (case z_bool => k_is)
    (case z_dict => k_is)
    (case z_int => k_is)
    (case z_isinstance => k_is)
    (case z_len => k_is)
    (case z_list => k_is)
    (case z_max => k_is)
    (case z_min => k_is)
    (case z_range => k_is)
    (case z_repr => k_is)
    (case z_sorted => k_is)
    (case z_sum => k_is)
    (case z_tuple => k_is)
    (case z_zip => k_is)
