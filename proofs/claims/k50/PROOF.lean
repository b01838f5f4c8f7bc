import PyProof.Rows.All
import Wide.All
import OpenK.AllK
import Wide.FinOn
import HandS.ForMost
import HandS.IsInst
import HandS.SortRule
import HandS.SortInts
import HandS.Star
import HandS.TupAny
import HandS.TupMul
import HandS.Style
import HandS.DictComp
import HandS.ListItems
import HandS.Zip
import HandS.Wide
import PyProof.TupleOfSeq
import KE.KItemsList
import KE.KDictSum
import KE.KDictPairs
import HandS.Conv
import HandS.More
import HandS.RaiseMore
import KE.KDictZip
import KE.GoesEnum
import KE.KTupSum
import KE.DatumOrd
import PySem.Challenge.RW_howeveritpasses_k50_whole_bursts_and_lat
set_option Elab.async false
set_option linter.all false
set_option maxRecDepth 100000
set_option maxHeartbeats 4000000
/-! Pv1: pure values over the hand layer: data, a store of lists and dicts by number, judgements by functions. -/
namespace Pv
open PySem PySem.Spec PyProof.Rows L2

abbrev D := PyData
/-- a value: data; the object of that number in the store; a tuple with such in it; a list that is only read (the script) -/
inductive T where
  | p (d : D) | loc (n : Nat) | mix (ts : List T) | ro (xs : List D) | ft (xs : List D)
/-- an object of the store -/
inductive O where
  | lst (xs : List D) | dic (kvs : List (Key × D)) | lck (kvs : List (Key × D))
abbrev Env := List (Option T)
abbrev Sto := List O
abbrev EF := Env → Sto → Option (T × Sto)
abbrev TF := Env → Sto → Option (Bool × Sto)
abbrev AF := Env → Sto → Option (List T × Sto)
inductive Out where
  | nx | bk | ct | rt (t : T)
abbrev SF := Nat → Env → Sto → Option (Out × Env × Sto)

/-! ### what stands in the abstract heap -/
structure KeepT (H H' : Hp) : Prop where
  tup : ∀ b xs, Rd H b (.tup xs) → Rd H' b (.tup xs)
  fro : ∀ b o xs, H b = some (.frz o (.lst xs)) → H' b = some (.frz o (.lst xs))
  frt : ∀ b o xs, H b = some (.frz o (.tup xs)) → H' b = some (.frz o (.tup xs))
structure Keep (H H' : Hp) : Prop extends KeepT H H' where
  frd : ∀ b o xs, H b = some (.frz o (.dK xs)) → H' b = some (.frz o (.dK xs))
theorem KeepT.trans {H H1 H2 : Hp} (a : KeepT H H1) (b : KeepT H1 H2) : KeepT H H2 := ⟨fun c xs h => b.tup c xs (a.tup c xs h), fun c o xs h => b.fro c o xs (a.fro c o xs h), fun c o xs h => b.frt c o xs (a.frt c o xs h)⟩
theorem Keep.refl (H : Hp) : Keep H H := ⟨⟨fun _ _ h => h, fun _ _ _ h => h, fun _ _ _ h => h⟩, fun _ _ _ h => h⟩
theorem Keep.trans {H H1 H2 : Hp} (a : Keep H H1) (b : Keep H1 H2) : Keep H H2 := ⟨a.toKeepT.trans b.toKeepT, fun c o xs h => b.frd c o xs (a.frd c o xs h)⟩
theorem Keep.new {H : Hp} {p : Addr} {o : HO} (n : H p = none) : Keep H (upd H p o) := by
  refine ⟨⟨fun b xs h => ?_, fun b o' xs h => ?_, fun b o' xs h => ?_⟩, fun b o' xs h => ?_⟩
  · rcases h with h | ⟨o', h⟩
    · exact .inl (by rw [upd_ne (ne_of_none h n)]; exact h)
    · exact .inr ⟨o', by rw [upd_ne (ne_of_none h n)]; exact h⟩
  · rw [upd_ne (ne_of_none h n)]; exact h
  · rw [upd_ne (ne_of_none h n)]; exact h
  · rw [upd_ne (ne_of_none h n)]; exact h
/-- what may be changed: no tuple, no read-only list -/
def FreeT (o : HO) : Prop := (∀ xs, o ≠ .tup xs) ∧ (∀ ob xs, o ≠ .frz ob (.tup xs)) ∧ (∀ ob xs, o ≠ .frz ob (.lst xs))
/-- .. and no locked dict -/
def Free (o : HO) : Prop := FreeT o ∧ ∀ ob xs, o ≠ .frz ob (.dK xs)
theorem KeepT.put {H : Hp} {a : Addr} {o o' : HO} (h : H a = some o) (f : FreeT o) : KeepT H (upd H a o') := by
  refine ⟨fun b xs q => ?_, fun b ob xs q => ?_, fun b ob xs q => ?_⟩
  · rcases q with q | ⟨ob, q⟩
    · have n : b ≠ a := fun e => by subst e; rw [h] at q; exact f.1 _ (Option.some.inj q)
      exact .inl (by rw [upd_ne n]; exact q)
    · have n : b ≠ a := fun e => by subst e; rw [h] at q; exact f.2.1 _ _ (Option.some.inj q)
      exact .inr ⟨ob, by rw [upd_ne n]; exact q⟩
  · have n : b ≠ a := fun e => by subst e; rw [h] at q; exact f.2.2 _ _ (Option.some.inj q)
    rw [upd_ne n]; exact q
  · have n : b ≠ a := fun e => by subst e; rw [h] at q; exact f.2.1 _ _ (Option.some.inj q)
    rw [upd_ne n]; exact q
theorem Keep.put {H : Hp} {a : Addr} {o o' : HO} (h : H a = some o) (f : Free o) : Keep H (upd H a o') := by
  refine ⟨KeepT.put h f.1, fun b ob xs q => ?_⟩
  have n : b ≠ a := fun e => by subst e; rw [h] at q; exact f.2 _ _ (Option.some.inj q)
  rw [upd_ne n]; exact q
theorem free_lst {xs : List V} : Free (.lst xs) := ⟨⟨fun _ e => (by cases e), fun _ _ e => (by cases e), fun _ _ e => (by cases e)⟩, fun _ _ e => (by cases e)⟩
theorem free_dK {xs : List (Key × V)} : Free (.dK xs) := ⟨⟨fun _ e => (by cases e), fun _ _ e => (by cases e), fun _ _ e => (by cases e)⟩, fun _ _ e => (by cases e)⟩
theorem free_lck {o : Obj} {xs : List (Key × V)} : FreeT (.frz o (.dK xs)) := ⟨fun _ e => (by cases e), fun _ _ e => (by cases e), fun _ _ e => (by cases e)⟩
section
variable {K : PySem.W.Frag} {H H' : Hp} {A A' : List Addr}
theorem KeepT.sqt (k : KeepT H H') {a : Addr} {xs : List V} (h : SqT K H a xs) : SqT K H' a xs := by
  rcases h with h | h
  · exact .inl (k.tup _ _ h)
  · exact .inr h
/-- a list that is only read -/
def RoL (K : PySem.W.Frag) (H : Hp) (a : Addr) (xs : List V) : Prop :=
  (∃ o, H a = some (.frz o (.lst xs))) ∨
    ∃ (o : Obj) (its : Array Value) (n : Nat), K.lookup a = some o ∧ o.cls = .type "list" ∧ o.dict = none ∧ o.data = .seq its n ∧ its.size ≤ sizeLine ∧ Vals xs its.toList
theorem RoL.sql {a : Addr} {xs : List V} (h : RoL K H a xs) : SqL K H a xs := by
  rcases h with ⟨o, h⟩ | h
  · exact .inl (.inr ⟨o, h⟩)
  · exact .inr h
theorem KeepT.rol (k : KeepT H H') {a : Addr} {xs : List V} (h : RoL K H a xs) : RoL K H' a xs := by
  rcases h with ⟨o, h⟩ | h
  · exact .inl ⟨o, k.fro _ _ _ h⟩
  · exact .inr h

/-! ### values stand for data -/
mutual
inductive Rp (K : PySem.W.Frag) (H : Hp) : V → D → Prop
  | non : Rp K H .non .none
  | bl (b : Bool) : Rp K H (.bl b) (.bool b)
  | int (i : Int) : Rp K H (.int i) (.int i)
  | str (x : Str) : Rp K H (.str x) (.str x)
  | tup {a : Addr} {vs : List V} {ds : List D} : SqT K H a vs → Rps K H vs ds → Rp K H (.ref a) (.tuple ds)
inductive Rps (K : PySem.W.Frag) (H : Hp) : List V → List D → Prop
  | nil : Rps K H [] []
  | cons {v : V} {vs : List V} {d : D} {ds : List D} : Rp K H v d → Rps K H vs ds → Rps K H (v :: vs) (d :: ds)
end
mutual
inductive Rt (K : PySem.W.Frag) (H : Hp) (A : List Addr) : V → T → Prop
  | p {v : V} {d : D} : Rp K H v d → Rt K H A v (.p d)
  | loc {n : Nat} {a : Addr} : A[n]? = some a → Rt K H A (.ref a) (.loc n)
  | mix {a : Addr} {vs : List V} {ts : List T} : SqT K H a vs → Rts K H A vs ts → Rt K H A (.ref a) (.mix ts)
  | ro {a : Addr} {vs : List V} {ds : List D} : RoL K H a vs → Rps K H vs ds → Rt K H A (.ref a) (.ro ds)
  | ft {a : Addr} {ob : Obj} {vs : List V} {ds : List D} : H a = some (.frz ob (.tup vs)) → ob.dict = none → Rps K H vs ds → Rt K H A (.ref a) (.ft ds)
inductive Rts (K : PySem.W.Frag) (H : Hp) (A : List Addr) : List V → List T → Prop
  | nil : Rts K H A [] []
  | cons {v : V} {vs : List V} {t : T} {ts : List T} : Rt K H A v t → Rts K H A vs ts → Rts K H A (v :: vs) (t :: ts)
end
mutual
theorem Rp.keepT (k : KeepT H H') : ∀ {v : V} {d : D}, Rp K H v d → Rp K H' v d
  | _, _, .non => .non
  | _, _, .bl b => .bl b
  | _, _, .int i => .int i
  | _, _, .str x => .str x
  | _, _, .tup s r => .tup (k.sqt s) (Rps.keepT k r)
theorem Rps.keepT (k : KeepT H H') : ∀ {v : List V} {d : List D}, Rps K H v d → Rps K H' v d
  | _, _, .nil => .nil
  | _, _, .cons a b => .cons (Rp.keepT k a) (Rps.keepT k b)
end
theorem Rp.keep (k : Keep H H') {v : V} {d : D} (h : Rp K H v d) : Rp K H' v d := h.keepT k.toKeepT
theorem Rps.keep (k : Keep H H') {v : List V} {d : List D} (h : Rps K H v d) : Rps K H' v d := h.keepT k.toKeepT
/-- the old numbers stand for the old addresses -/
def Pre (A A' : List Addr) : Prop := ∀ (i : Nat) (a : Addr), A[i]? = some a → A'[i]? = some a
theorem Pre.refl (A : List Addr) : Pre A A := fun _ _ h => h
theorem Pre.trans {A A1 A2 : List Addr} (a : Pre A A1) (b : Pre A1 A2) : Pre A A2 := fun i x h => b i x (a i x h)
theorem Pre.app (A B : List Addr) : Pre A (A ++ B) := fun i a h => by
  show (A ++ B)[i]? = some a
  rw [List.getElem?_append_left (List.getElem?_eq_some_iff.mp h).1]; exact h
theorem Pre.len {A A' : List Addr} (p : Pre A A') : A.length ≤ A'.length := by
  cases A with
  | nil => exact Nat.zero_le _
  | cons x xs =>
    have h : (x :: xs)[xs.length]? = some ((x :: xs)[xs.length]) := List.getElem?_eq_getElem (by simp)
    have := (List.getElem?_eq_some_iff.mp (p _ _ h)).1
    simp; omega
mutual
theorem Rt.keepT (k : KeepT H H') (p : Pre A A') : ∀ {v : V} {t : T}, Rt K H A v t → Rt K H' A' v t
  | _, _, .p r => .p (r.keepT k)
  | _, _, .loc e => .loc (p _ _ e)
  | _, _, .mix s r => .mix (k.sqt s) (Rts.keepT k p r)
  | _, _, .ro s r => .ro (k.rol s) (r.keepT k)
  | _, _, .ft s d r => .ft (k.frt _ _ _ s) d (r.keepT k)
theorem Rts.keepT (k : KeepT H H') (p : Pre A A') : ∀ {v : List V} {t : List T}, Rts K H A v t → Rts K H' A' v t
  | _, _, .nil => .nil
  | _, _, .cons a b => .cons (Rt.keepT k p a) (Rts.keepT k p b)
end
theorem Rt.keep (k : Keep H H') (p : Pre A A') {v : V} {t : T} (h : Rt K H A v t) : Rt K H' A' v t := h.keepT k.toKeepT p
theorem Rts.keep (k : Keep H H') (p : Pre A A') {v : List V} {t : List T} (h : Rts K H A v t) : Rts K H' A' v t := h.keepT k.toKeepT p
theorem Rps.length : ∀ {vs : List V} {ds : List D}, Rps K H vs ds → vs.length = ds.length
  | _, _, .nil => rfl
  | _, _, .cons _ r => by simp [Rps.length r]
theorem Rts.length : ∀ {vs : List V} {ds : List T}, Rts K H A vs ds → vs.length = ds.length
  | _, _, .nil => rfl
  | _, _, .cons _ r => by simp [Rts.length r]
theorem Rps.get : ∀ {vs : List V} {ds : List D} {i : Nat} {d : D}, Rps K H vs ds → ds[i]? = some d → ∃ v, vs[i]? = some v ∧ Rp K H v d
  | _, _, _, _, .nil, e => by simp at e
  | _, _, 0, _, .cons r _, e => by simp at e; subst e; exact ⟨_, rfl, r⟩
  | _, _, i + 1, d, .cons _ t, e => by
    obtain ⟨u, h1, h2⟩ := Rps.get (i := i) (d := d) t (by simpa using e)
    exact ⟨u, by simpa using h1, h2⟩
theorem Rps.getV {vs : List V} {ds : List D} {i : Nat} {v : V} (r : Rps K H vs ds) (e : vs[i]? = some v) : ∃ d, ds[i]? = some d ∧ Rp K H v d := by
  have h := (List.getElem?_eq_some_iff.mp e).1
  rw [r.length] at h
  obtain ⟨u, h1, h2⟩ := r.get (List.getElem?_eq_getElem h)
  rw [e] at h1; cases h1
  exact ⟨_, List.getElem?_eq_getElem h, h2⟩
theorem Rts.get : ∀ {vs : List V} {ds : List T} {i : Nat} {d : T}, Rts K H A vs ds → ds[i]? = some d → ∃ v, vs[i]? = some v ∧ Rt K H A v d
  | _, _, _, _, .nil, e => by simp at e
  | _, _, 0, _, .cons r _, e => by simp at e; subst e; exact ⟨_, rfl, r⟩
  | _, _, i + 1, d, .cons _ t, e => by
    obtain ⟨u, h1, h2⟩ := Rts.get (i := i) (d := d) t (by simpa using e)
    exact ⟨u, by simpa using h1, h2⟩
theorem Rps.app : ∀ {vs us : List V} {ds es : List D}, Rps K H vs ds → Rps K H us es → Rps K H (vs ++ us) (ds ++ es)
  | _, _, _, _, .nil, s => s
  | _, _, _, _, .cons r t, s => .cons r (Rps.app t s)
theorem Rps.set {v : V} {d : D} (q : Rp K H v d) : ∀ {vs : List V} {ds : List D} (i : Nat), Rps K H vs ds → Rps K H (vs.set i v) (ds.set i d)
  | _, _, _, .nil => .nil
  | _, _, 0, .cons _ t => .cons q t
  | _, _, i + 1, .cons r t => .cons r (Rps.set q i t)
theorem Rps.take : ∀ {vs : List V} {ds : List D} (n : Nat), Rps K H vs ds → Rps K H (vs.take n) (ds.take n)
  | _, _, 0, _ => .nil
  | _, _, _ + 1, .nil => .nil
  | _, _, n + 1, .cons r t => .cons r (Rps.take n t)
theorem Rps.drop : ∀ {vs : List V} {ds : List D} (n : Nat), Rps K H vs ds → Rps K H (vs.drop n) (ds.drop n)
  | _, _, 0, r => r
  | _, _, _ + 1, .nil => .nil
  | _, _, n + 1, .cons _ t => Rps.drop n t
theorem Rps.rev {vs : List V} {ds : List D} (r : Rps K H vs ds) : Rps K H vs.reverse ds.reverse := by
  induction r using Rps.rec (motive_1 := fun _ _ _ => True) with
  | nil => exact .nil
  | cons a b _ ih => rw [List.reverse_cons, List.reverse_cons]; exact ih.app (.cons a .nil)
  | non => trivial
  | bl => trivial
  | int => trivial
  | str => trivial
  | tup => trivial
theorem Rps.eraseIdx : ∀ {vs : List V} {ds : List D} (n : Nat), Rps K H vs ds → Rps K H (vs.eraseIdx n) (ds.eraseIdx n)
  | _, _, _, .nil => .nil
  | _, _, 0, .cons _ t => t
  | _, _, n + 1, .cons r t => .cons r (Rps.eraseIdx n t)
theorem Rps.ints : ∀ {ns : List Int}, Rps K H (ns.map V.int) (ns.map PyData.int)
  | [] => .nil
  | n :: ns => .cons (.int n) Rps.ints
theorem Rps.of_ints : ∀ {ns : List Int} {vs : List V}, Rps K H vs (ns.map PyData.int) → vs = ns.map V.int
  | [], _, h => by cases h; rfl
  | n :: ns, _, h => by
    cases h with
    | cons a b => cases a; rw [Rps.of_ints b]; rfl
theorem Rps.of_bools : ∀ {ns : List Bool} {vs : List V}, Rps K H vs (ns.map PyData.bool) → vs = ns.map V.bl
  | [], _, h => by cases h; rfl
  | n :: ns, _, h => by
    cases h with
    | cons a b => cases a; rw [Rps.of_bools b]; rfl
theorem Rps.of_strs : ∀ {ns : List Str} {vs : List V}, Rps K H vs (ns.map PyData.str) → vs = ns.map V.str
  | [], _, h => by cases h; rfl
  | n :: ns, _, h => by
    cases h with
    | cons a b => cases a; rw [Rps.of_strs b]; rfl
mutual
theorem Rp.dp : ∀ {v : V} {d : D}, Rp K H v d → Dp K H v d
  | _, _, .non => .non
  | _, _, .bl b => .bl b
  | _, _, .int i => .int i
  | _, _, .str x => .str x
  | _, _, .tup s r => .tup s (Rps.dps r)
theorem Rps.dps : ∀ {v : List V} {d : List D}, Rps K H v d → DpAll K H v d
  | _, _, .nil => .nil
  | _, _, .cons a b => .cons (Rp.dp a) (Rps.dps b)
end

/-! what is data all through -/
mutual
def dat : T → Option D
  | .p d => some d
  | .ft xs => some (.tuple xs)
  | .mix ts => (dats ts).map PyData.tuple
  | .loc _ => none
  | .ro _ => none
def dats : List T → Option (List D)
  | [] => some []
  | t :: ts => (dat t).bind fun d => (dats ts).map fun ds => d :: ds
end
mutual
theorem Rt.dat : ∀ {v : V} {t : T} {d : D}, Rt K H A v t → Pv.dat t = some d → Rp K H v d
  | _, _, _, .p r, h => by simp only [Pv.dat] at h; cases h; exact r
  | _, _, _, .ft s _ r, h => by simp only [Pv.dat] at h; cases h; exact .tup (.inl (.inr ⟨_, s⟩)) r
  | _, _, _, .mix s r, h => by
    simp only [Pv.dat] at h
    obtain ⟨ds, e, h⟩ := Option.map_eq_some_iff.mp h
    subst h
    exact .tup s (Rts.dats r e)
  | _, _, _, .loc _, h => by simp only [Pv.dat] at h; cases h
  | _, _, _, .ro _ _, h => by simp only [Pv.dat] at h; cases h
theorem Rts.dats : ∀ {v : List V} {t : List T} {d : List D}, Rts K H A v t → Pv.dats t = some d → Rps K H v d
  | _, _, _, .nil, h => by simp only [Pv.dats] at h; cases h; exact .nil
  | _, _, _, .cons a b, h => by
    simp only [Pv.dats] at h
    obtain ⟨d, e1, h⟩ := Option.bind_eq_some_iff.mp h
    obtain ⟨ds, e2, h⟩ := Option.map_eq_some_iff.mp h
    subst h
    exact .cons (Rt.dat a e1) (Rts.dats b e2)
end
def dn (t : T) : T := match Pv.dat t with
  | some d => .p d
  | none => t
theorem Rt.dn {v : V} {t : T} (r : Rt K H A v t) : Rt K H A v (Pv.dn t) := by
  unfold Pv.dn
  split
  · next d e => exact .p (r.dat e)
  · exact r
@[simp] theorem dn_p (d : D) : Pv.dn (.p d) = .p d := rfl
@[simp] theorem dn_loc (n : Nat) : Pv.dn (.loc n) = .loc n := rfl
@[simp] theorem dn_ro (xs : List D) : Pv.dn (.ro xs) = .ro xs := rfl
@[simp] theorem dn_ft (xs : List D) : Pv.dn (.ft xs) = .p (.tuple xs) := rfl

/-! ### the store -/
def RKV (K : PySem.W.Frag) (H : Hp) : List (Key × V) → List (Key × D) → Prop := Paired fun p q => p.1 = q.1 ∧ Rp K H p.2 q.2
theorem RKV.keepT (k : KeepT H H') {xs : List (Key × V)} {ys : List (Key × D)} (h : RKV K H xs ys) : RKV K H' xs ys := Paired.mapP h fun _ _ q => ⟨q.1, q.2.keepT k⟩
theorem RKV.keep (k : Keep H H') {xs : List (Key × V)} {ys : List (Key × D)} (h : RKV K H xs ys) : RKV K H' xs ys := h.keepT k.toKeepT
def RO (K : PySem.W.Frag) (H : Hp) (a : Addr) : O → Prop
  | .lst xs => ∃ vs, H a = some (.lst vs) ∧ Rps K H vs xs
  | .dic kvs => ∃ kv, H a = some (.dK kv) ∧ RKV K H kv kvs
  | .lck kvs => ∃ o kv, H a = some (.frz o (.dK kv)) ∧ RKV K H kv kvs
theorem RO.there {a : Addr} {o : O} (h : RO K H a o) : ∃ x, H a = some x ∧ FreeT x := by
  cases o with
  | lst xs => obtain ⟨vs, e, _⟩ := h; exact ⟨_, e, free_lst.1⟩
  | dic xs => obtain ⟨vs, e, _⟩ := h; exact ⟨_, e, free_dK.1⟩
  | lck xs => obtain ⟨o, vs, e, _⟩ := h; exact ⟨_, e, free_lck⟩
theorem RO.keepT (k : KeepT H H') {a : Addr} {o : O} (e : H' a = H a) (h : RO K H a o) : RO K H' a o := by
  cases o with
  | lst xs => obtain ⟨vs, q, r⟩ := h; exact ⟨vs, e.trans q, r.keepT k⟩
  | dic xs => obtain ⟨vs, q, r⟩ := h; exact ⟨vs, e.trans q, r.keepT k⟩
  | lck xs => obtain ⟨o, vs, q, r⟩ := h; exact ⟨o, vs, e.trans q, r.keepT k⟩
theorem RO.keep (k : Keep H H') {a : Addr} {o : O} (e : H' a = H a) (h : RO K H a o) : RO K H' a o := h.keepT k.toKeepT e
structure RS (K : PySem.W.Frag) (H : Hp) (A : List Addr) (S : Sto) : Prop where
  len : A.length = S.length
  nd : A.Nodup
  ob : ∀ (n : Nat) (a : Addr) (o : O), A[n]? = some a → S[n]? = some o → RO K H a o
theorem RS.there {S : Sto} (h : RS K H A S) {n : Nat} {a : Addr} (e : A[n]? = some a) : ∃ x, H a = some x ∧ FreeT x := by
  have hn := (List.getElem?_eq_some_iff.mp e).1
  rw [h.len] at hn
  exact (h.ob n a _ e (List.getElem?_eq_getElem hn)).there
theorem RS.not_mem {S : Sto} (h : RS K H A S) {p : Addr} (n : H p = none) : p ∉ A := fun m => by
  obtain ⟨i, hi⟩ := List.getElem?_of_mem m
  obtain ⟨x, e, _⟩ := h.there hi
  rw [n] at e; cases e
/-- a new tuple, or another thing that the store doesn't tell -/
theorem RS.new {S : Sto} (h : RS K H A S) {p : Addr} {o : HO} (n : H p = none) : RS K (upd H p o) A S :=
  ⟨h.len, h.nd, fun i a ob e q => by
    have ne : a ≠ p := fun z => h.not_mem n (z ▸ List.mem_of_getElem? e)
    exact (h.ob i a ob e q).keep (Keep.new n) (upd_ne ne)⟩
theorem RS.push {S : Sto} (h : RS K H A S) {p : Addr} {o : HO} {ob : O} (n : H p = none) (q : RO K (upd H p o) p ob) : RS K (upd H p o) (A ++ [p]) (S ++ [ob]) := by
  have h' := h.new (o := o) n
  refine ⟨by simp [h.len], ?_, fun i a ob' e q' => ?_⟩
  · rw [List.nodup_append]
    refine ⟨h.nd, by simp, fun a ha b hb => ?_⟩
    have : b = p := by simpa using hb
    subst this
    exact fun z => h.not_mem n (z ▸ ha)
  · by_cases hi : i < A.length
    · rw [List.getElem?_append_left hi] at e
      rw [List.getElem?_append_left (h.len ▸ hi)] at q'
      exact h'.ob i a ob' e q'
    · have hi' : A.length ≤ i := Nat.le_of_not_lt hi
      rw [List.getElem?_append_right hi'] at e
      rw [List.getElem?_append_right (h.len ▸ hi')] at q'
      have z : i - A.length = 0 := by
        have := (List.getElem?_eq_some_iff.mp e).1
        simp at this; omega
      rw [z] at e
      rw [h.len] at z
      rw [z] at q'
      simp at e q'
      subst e; subst q'
      exact q
theorem RS.put {S : Sto} (h : RS K H A S) {n : Nat} {a : Addr} {o : HO} {ob : O} (e : A[n]? = some a) (q : RO K (upd H a o) a ob) : RS K (upd H a o) A (S.set n ob) := by
  obtain ⟨x, hx, fx⟩ := h.there e
  refine ⟨by simp [h.len], h.nd, fun i b ob' e' q' => ?_⟩
  by_cases hi : n = i
  · subst hi
    rw [e] at e'; cases e'
    have hn := (List.getElem?_eq_some_iff.mp e).1
    rw [h.len] at hn
    rw [List.getElem?_set_self hn] at q'
    cases q'
    exact q
  · rw [List.getElem?_set_ne hi] at q'
    have ne : b ≠ a := fun z => by
      subst z
      exact hi ((List.getElem?_inj (List.getElem?_eq_some_iff.mp e).1 h.nd).mp (e.trans e'.symm))
    exact (h.ob i b ob' e' q').keepT (KeepT.put hx fx) (upd_ne ne)
theorem RS.take {S : Sto} (h : RS K H A S) (n : Nat) : RS K H (A.take n) (S.take n) :=
  ⟨by simp [h.len], h.nd.sublist (List.take_sublist _ _), fun i a o e q => by
    have hi : i < n := by
      have := (List.getElem?_eq_some_iff.mp e).1
      simp at this; omega
    rw [List.getElem?_take_of_lt hi] at e q
    exact h.ob i a o e q⟩
theorem RS.at {S : Sto} (h : RS K H A S) {n : Nat} {o : O} (q : S[n]? = some o) : ∃ a, A[n]? = some a ∧ RO K H a o := by
  have hn := (List.getElem?_eq_some_iff.mp q).1
  rw [← h.len] at hn
  exact ⟨_, List.getElem?_eq_getElem hn, h.ob n _ o (List.getElem?_eq_getElem hn) q⟩

/-! ### the slots -/
def RE (K : PySem.W.Frag) (H : Hp) (A : List Addr) (σ : L2.St) (env : Env) : Prop := σ.length = env.length ∧ ∀ (i : Nat) (t : T), env[i]? = some (some t) → ∃ v, σ[i]? = some (some v) ∧ Rt K H A v t
theorem RE.keepT {σ : L2.St} {env : Env} (k : KeepT H H') (p : Pre A A') (h : RE K H A σ env) : RE K H' A' σ env :=
  ⟨h.1, fun i t e => let ⟨v, e1, r⟩ := h.2 i t e; ⟨v, e1, r.keepT k p⟩⟩
theorem RE.keep {σ : L2.St} {env : Env} (k : Keep H H') (p : Pre A A') (h : RE K H A σ env) : RE K H' A' σ env := h.keepT k.toKeepT p
theorem RE.set {σ : L2.St} {env : Env} {v : V} {t : T} (h : RE K H A σ env) (r : Rt K H A v t) (i : Nat) : RE K H A (σ.set i (some v)) (env.set i (some t)) := by
  refine ⟨by simp [h.1], fun j u e => ?_⟩
  by_cases hj : i = j
  · subst hj
    by_cases hl : i < env.length
    · rw [List.getElem?_set_self hl] at e
      cases e
      exact ⟨v, List.getElem?_set_self (h.1 ▸ hl), r⟩
    · rw [List.getElem?_eq_none (by simpa using hl)] at e; cases e
  · rw [List.getElem?_set_ne hj] at e
    obtain ⟨x, e1, r1⟩ := h.2 j u e
    exact ⟨x, by rw [List.getElem?_set_ne hj]; exact e1, r1⟩
end
end Pv
set_option maxHeartbeats 4000000
/-! Pv2: the judgements, names, operators, tests, displays, statements, for, while, defs. -/
namespace Pv
open PySem PySem.Spec PyProof.Rows L2

/-! ### what a function of slots and store tells of a reading -/
def EOk (K : PySem.W.Frag) (t : TE) (f : EF) : Prop := ∀ (σ : L2.St) (H : Hp) (A : List Addr) (env : Env) (S : Sto) (r : T) (S' : Sto), RE K H A σ env → RS K H A S → f env S = some (r, S') →
  ∀ Q : VK, (∀ v H' A', Pre A A' → Keep H H' → RS K H' A' S' → Rt K H' A' v r → Q v H') → t σ H Q
def TOk (K : PySem.W.Frag) (t : TT) (f : TF) : Prop := ∀ (σ : L2.St) (H : Hp) (A : List Addr) (env : Env) (S : Sto) (r : Bool) (S' : Sto), RE K H A σ env → RS K H A S → f env S = some (r, S') →
  ∀ Q : Bool → Hp → Prop, (∀ H' A', Pre A A' → Keep H H' → RS K H' A' S' → Q r H') → t σ H Q
def AOk (K : PySem.W.Frag) (t : TA) (f : AF) : Prop := ∀ (σ : L2.St) (H : Hp) (A : List Addr) (env : Env) (S : Sto) (r : List T) (S' : Sto), RE K H A σ env → RS K H A S → f env S = some (r, S') →
  ∀ Q : List V → Hp → Prop, (∀ v H' A', Pre A A' → Keep H H' → RS K H' A' S' → Rts K H' A' v r → Q v H') → t σ H Q
/-- the numbers below n stand for what they stood for -/
def SameTo (n : Nat) (A A' : List Addr) : Prop := ∀ (i : Nat) (a : Addr), i < n → A[i]? = some a → A'[i]? = some a
theorem Pre.sameTo {A A' : List Addr} (h : Pre A A') (n : Nat) : SameTo n A A' := fun i a _ e => h i a e
theorem SameTo.trans {n : Nat} {A A1 A2 : List Addr} (h : SameTo n A A1) (h' : SameTo n A1 A2) : SameTo n A A2 := fun i a l e => h' i a l (h i a l e)
theorem SameTo.le {n : Nat} {A A' : List Addr} (h : SameTo n A A') (hn : n ≤ A.length) : n ≤ A'.length := by
  cases n with
  | zero => exact Nat.zero_le _
  | succ m => exact (List.getElem?_eq_some_iff.mp (h m _ (Nat.lt_succ_self m) (List.getElem?_eq_getElem hn))).1
theorem SameTo.mono {m n : Nat} {A A' : List Addr} (h : SameTo n A A') (l : m ≤ n) : SameTo m A A' := fun i a hi e => h i a (Nat.lt_of_lt_of_le hi l) e
def EndOk (K : PySem.W.Frag) (H : Hp) (A : List Addr) (o : Out) (env : Env) (D : Ends) : Prop := match o with
  | .nx => ∀ σ, RE K H A σ env → D.nx σ H
  | .bk => ∀ σ, RE K H A σ env → D.bk σ H
  | .ct => ∀ σ, RE K H A σ env → D.ct σ H
  | .rt r => ∀ v, Rt K H A v r → D.rt v H
def SOk (K : PySem.W.Frag) (t : TS) (f : SF) : Prop := ∀ (n0 : Nat) (σ : L2.St) (H : Hp) (A : List Addr) (env : Env) (S : Sto) (o : Out) (env' : Env) (S' : Sto), n0 ≤ S.length → RE K H A σ env → RS K H A S → f n0 env S = some (o, env', S') →
  ∀ D : Ends, (∀ H' A', SameTo n0 A A' → Keep H H' → RS K H' A' S' → EndOk K H' A' o env' D) → t D σ H
structure PV (X : Cx) (e : Expr) (t : TE) (f : EF) : Prop where
  pe : PE X e t
  ok : EOk X.K t f
structure PVT (X : Cx) (e : Expr) (t : TT) (f : TF) : Prop where
  pt : PT X e t
  ok : TOk X.K t f
structure PVW (X : Cx) (e : Expr) (t : TT) (f : TF) : Prop where
  pw : PW X e t
  ok : TOk X.K t f
structure PVA (X : Cx) (es : List Expr) (t : TA) (f : AF) : Prop where
  pa : PA X es t
  ok : AOk X.K t f
structure PVS (X : Cx) (st : Stmt) (t : TS) (f : SF) : Prop where
  ps : PS X st t
  ok : SOk X.K t f
structure PVB (X : Cx) (st : List Stmt) (t : TS) (f : SF) : Prop where
  ps : PSs X st t
  ok : SOk X.K t f
theorem PVW.pt {X : Cx} {e : Expr} {t : TT} {f : TF} (h : PVW X e t f) : PVT X e t f := ⟨h.pw.pt, h.ok⟩
theorem PV.as {X : Cx} {e : Expr} {t : TE} {f g : EF} (h : PV X e t f) (q : f = g) : PV X e t g := q ▸ h

section
variable {X : Cx} {a b e : Expr} {es : List Expr} {ta tb te : TE} {fa fb fe : EF} {pos : Pos}

/-! ### what is not come to -/
def noneF : EF := fun _ _ => none
theorem pv_no : PV X e (fun _ _ _ => False) noneF := ⟨⟨fun _ _ _ _ _ _ h => h.elim⟩, fun _ _ _ _ _ _ _ _ _ h => (nomatch h)⟩
def noneS : SF := fun _ _ _ => none
theorem pvs_no {st : Stmt} : PVS X st tNever noneS := ⟨ps_never, fun _ _ _ _ _ _ _ _ _ _ _ _ h => (nomatch h)⟩

/-! ### names, constants -/
def rawF (i : Nat) : EF := fun env S => match env[i]? with
  | some (some t) => some (t, S)
  | _ => none
theorem pv_raw (i : Nat) {x : Str} {pos : Pos} (hN : X.N[i]? = some x := by rfl) (hv : Vis X.env.scope x := by first | exact Or.inl rfl | exact Or.inr (Or.inl rfl) | exact Or.inr (Or.inr rfl)) (hd : (x == ("__debug__" : Str)) = false := by decide)
    (hcd : (x == ("__classdict__" : Str)) = false := by decide) : PV X (.Name x pos) (tVar i) (rawF i) := by
  refine ⟨pe_var hN hv hd hcd, fun σ H A env S r S' he hs h Q hq => ?_⟩
  unfold rawF at h
  split at h
  · next t e1 =>
    cases h
    obtain ⟨v, e2, r2⟩ := he.2 i _ e1
    exact ⟨v, e2, hq v H A (Pre.refl A) (Keep.refl H) hs r2⟩
  · cases h
/-- told as data where it is data -/
def dnF (f : EF) : EF := fun env S => (f env S).map fun x => (dn x.1, x.2)
theorem dn_ok {K : PySem.W.Frag} (h : EOk K te fe) : EOk K te (dnF fe) := by
  intro σ H A env S r S' he hs hf Q hq
  obtain ⟨⟨x, S1⟩, e1, hf⟩ := Option.map_eq_some_iff.mp hf
  cases hf
  exact h σ H A env S x S1 he hs e1 Q fun v H' A' p k s r => hq v H' A' p k s r.dn
theorem pv_dn (h : PV X e te fe) : PV X e te (dnF fe) := ⟨h.pe, dn_ok h.ok⟩
def varF (i : Nat) : EF := fun env S => match env[i]? with
  | some (some t) => some (dn t, S)
  | _ => none
theorem pv_var (i : Nat) {x : Str} {pos : Pos} (hN : X.N[i]? = some x := by rfl) (hv : Vis X.env.scope x := by first | exact Or.inl rfl | exact Or.inr (Or.inl rfl) | exact Or.inr (Or.inr rfl)) (hd : (x == ("__debug__" : Str)) = false := by decide)
    (hcd : (x == ("__classdict__" : Str)) = false := by decide) : PV X (.Name x pos) (tVar i) (varF i) := by
  refine ⟨pe_var hN hv hd hcd, fun σ H A env S r S' he hs h Q hq => ?_⟩
  unfold varF at h
  split at h
  · next t e1 =>
    cases h
    obtain ⟨v, e2, r2⟩ := he.2 i _ e1
    exact ⟨v, e2, hq v H A (Pre.refl A) (Keep.refl H) hs r2.dn⟩
  · cases h
def conF (d : D) : EF := fun _ S => some (.p d, S)
theorem con_ok {K : PySem.W.Frag} {v : V} {d : D} (r : ∀ H, Rp K H v d) : EOk K (tC v) (conF d) := by
  intro σ H A env S r' S' he hs h Q hq
  cases h
  exact hq v H A (Pre.refl A) (Keep.refl H) hs (.p (r H))
theorem pv_int {i : Int} {j pos} : PV X (.Constant (.int i) j pos) (tC (.int i)) (conF (.int i)) := ⟨pe_int, con_ok fun _ => .int i⟩
theorem pv_bl {b : Bool} {j pos} : PV X (.Constant (.bool b) j pos) (tC (.bl b)) (conF (.bool b)) := ⟨pe_bl, con_ok fun _ => .bl b⟩
theorem pv_non {j pos} : PV X (.Constant .none j pos) (tC .non) (conF .none) := ⟨pe_non, con_ok fun _ => .non⟩
theorem pv_str {x : Str} {j pos} : PV X (.Constant (.str x) j pos) (tC (.str x)) (conF (.str x)) := ⟨pe_str, con_ok fun _ => .str x⟩
theorem pv_globI {x : Str} {i : Int} {u : Value} {pos : Pos} (hg : Gl X x) (hm : X.mg x = some u) (r : RelV (.int i) u) (hd : (x == ("__debug__" : Str)) = false := by decide) : PV X (.Name x pos) (tC (.int i)) (conF (.int i)) := ⟨pe_glob hg hm r hd, con_ok fun _ => .int i⟩
theorem pv_globS {x : Str} {i : Str} {u : Value} {pos : Pos} (hg : Gl X x) (hm : X.mg x = some u) (r : RelV (.str i) u) (hd : (x == ("__debug__" : Str)) = false := by decide) : PV X (.Name x pos) (tC (.str i)) (conF (.str i)) := ⟨pe_glob hg hm r hd, con_ok fun _ => .str i⟩

/-! ### operators by values -/
abbrev Op2 := T → T → Sto → Option (T × Sto)
def OpOk (K : PySem.W.Frag) (r : R2) (g : Op2) : Prop := ∀ (H : Hp) (A : List Addr) (S : Sto) (x y : V) (a b : T) (v : T) (S' : Sto), RS K H A S → Rt K H A x a → Rt K H A y b → g a b S = some (v, S') →
  ∀ Q : VK, (∀ u H' A', Pre A A' → Keep H H' → RS K H' A' S' → Rt K H' A' u v → Q u H') → r x y H Q
def binF (g : Op2) (fa fb : EF) : EF := fun env S => (fa env S).bind fun x => (fb env x.2).bind fun y => g x.1 y.1 y.2
theorem op_ok {K : PySem.W.Frag} {r : R2} {g : Op2} (h : OpOk K r g) (ha : EOk K ta fa) (hb : EOk K tb fb) : EOk K (tOp r ta tb) (binF g fa fb) := by
  intro σ H A env S v S' he hs hf Q hq
  obtain ⟨⟨x, S1⟩, e1, hf⟩ := Option.bind_eq_some_iff.mp hf
  obtain ⟨⟨y, S2⟩, e2, hf⟩ := Option.bind_eq_some_iff.mp hf
  refine ha σ H A env S x S1 he hs e1 _ fun u H1 A1 p1 k1 s1 r1 => ?_
  refine hb σ H1 A1 env S1 y S2 (he.keep k1 p1) s1 e2 _ fun u2 H2 A2 p2 k2 s2 r2 => ?_
  exact h H2 A2 S2 u u2 x y v S' s2 (r1.keep k2 p2) r2 hf Q fun u3 H3 A3 p3 k3 s3 r3 => hq u3 H3 A3 (p1.trans (p2.trans p3)) (k1.trans (k2.trans k3)) s3 r3
theorem pv_op {op : Operator} {r : R2} {g : Op2} (ho : OpR X (binaryOp op) r) (h : OpOk X.K r g) (ha : PV X a ta fa) (hb : PV X b tb fb) : PV X (.BinOp a op b pos) (tOp r ta tb) (binF g fa fb) :=
  ⟨pe_op ho ha.pe hb.pe, op_ok h ha.ok hb.ok⟩
theorem pv_cmp {op : CmpOp} {r : R2} {g : Op2} (ho : OpR X (compareOp op) r) (h : OpOk X.K r g) (ha : PV X a ta fa) (hb : PV X b tb fb) (hm : behindInMarks op b = false) : PV X (.Compare a [op] [b] pos) (tOp r ta tb) (binF g fa fb) :=
  ⟨pe_cmpR ho ha.pe hb.pe hm, op_ok h ha.ok hb.ok⟩
theorem pv_ix {r : R2} {g : Op2} (ho : IxR X r) (h : OpOk X.K r g) (ha : PV X a ta fa) (hb : PV X b tb fb) (hs : PlainIx b) : PV X (.Subscript a b pos) (tOp r ta tb) (binF g fa fb) :=
  ⟨pe_ix ho ha.pe hb.pe hs, op_ok h ha.ok hb.ok⟩
abbrev Op1 := T → Sto → Option (T × Sto)
def unF (g : Op1) (fa : EF) : EF := fun env S => (fa env S).bind fun x => g x.1 x.2
def UnOk (K : PySem.W.Frag) (r : V → Hp → VK → Prop) (g : Op1) : Prop := ∀ (H : Hp) (A : List Addr) (S : Sto) (x : V) (a : T) (v : T) (S' : Sto), RS K H A S → Rt K H A x a → g a S = some (v, S') →
  ∀ Q : VK, (∀ u H' A', Pre A A' → Keep H H' → RS K H' A' S' → Rt K H' A' u v → Q u H') → r x H Q
theorem un_ok {K : PySem.W.Frag} {r : V → Hp → VK → Prop} {g : Op1} (h : UnOk K r g) (ha : EOk K ta fa) : EOk K (tUn r ta) (unF g fa) := by
  intro σ H A env S v S' he hs hf Q hq
  obtain ⟨⟨x, S1⟩, e1, hf⟩ := Option.bind_eq_some_iff.mp hf
  refine ha σ H A env S x S1 he hs e1 _ fun u H1 A1 p1 k1 s1 r1 => ?_
  exact h H1 A1 S1 u x v S' s1 r1 hf Q fun u3 H3 A3 p3 k3 s3 r3 => hq u3 H3 A3 (p1.trans p3) (k1.trans k3) s3 r3
theorem pv_un {op : UnaryOp} {r : V → Hp → VK → Prop} {g : Op1} (ho : UnR X (unaryOp op) r) (h : UnOk X.K r g) (ha : PV X a ta fa) : PV X (.UnaryOp op a pos) (tUn r ta) (unF g fa) := ⟨pe_un ho ha.pe, un_ok h ha.ok⟩

/-! ### two ints -/
def iop (g : Int → Int → Option D) : Op2 := fun x y S => match x, y with
  | .p (.int i), .p (.int j) => (g i j).map fun d => (.p d, S)
  | _, _ => none
theorem iop_ok {K : PySem.W.Frag} {C : Int → Int → Prop} [∀ i j, Decidable (C i j)] {g : Int → Int → V} {d : Int → Int → D} (hg : ∀ i j H, Rp K H (g i j) (d i j)) : OpOk K (rI C g) (iop fun i j => if C i j then some (d i j) else none) := by
  intro H A S x y a b v S' hs rx ry h Q hq
  unfold iop at h
  split at h
  · rename_i i j
    cases rx with
    | p rx => cases rx; cases ry with
      | p ry =>
        cases ry
        by_cases hc : C i j
        · simp only [if_pos hc] at h; cases h
          exact ⟨i, j, rfl, rfl, hc, hq _ H A (Pre.refl A) (Keep.refl H) hs (.p (hg i j H))⟩
        · simp only [if_neg hc] at h; cases h
  · cases h
theorem iop_ok0 {K : PySem.W.Frag} {g : Int → Int → V} {d : Int → Int → D} (hg : ∀ i j H, Rp K H (g i j) (d i j)) : OpOk K (rI0 g) (iop fun i j => some (d i j)) := by
  intro H A S x y a b v S' hs rx ry h Q hq
  unfold iop at h
  split at h
  · rename_i i j
    cases rx with
    | p rx => cases rx; cases ry with
      | p ry =>
        cases ry
        cases h
        exact ⟨i, j, rfl, rfl, hq _ H A (Pre.refl A) (Keep.refl H) hs (.p (hg i j H))⟩
  · cases h
theorem OpOk.or {K : PySem.W.Frag} {r r' : R2} {g g' : Op2} (h : OpOk K r g) (h' : OpOk K r' g') : OpOk K (fun x y H Q => r x y H Q ∨ r' x y H Q) (fun x y S => (g x y S).or (g' x y S)) := by
  intro H A S x y a b v S' hs rx ry hf Q hq
  have hf : (g a b S).or (g' a b S) = some (v, S') := hf
  cases e : g a b S with
  | some z => rw [e] at hf; cases hf; exact .inl (h H A S x y a b v S' hs rx ry e Q hq)
  | none => rw [e] at hf; exact .inr (h' H A S x y a b v S' hs rx ry hf Q hq)
instance {i j : Int} : Decidable (CMul i j) := inferInstanceAs (Decidable (_ ∨ _))
instance {i j : Int} : Decidable (CPow i j) := inferInstanceAs (Decidable (_ ∧ _))
instance {i j : Int} : Decidable (CDiv i j) := inferInstanceAs (Decidable (_ ∧ _))
abbrev subI : Op2 := iop fun i j => some (.int (i - j))
abbrev mulI : Op2 := iop fun i j => if CMul i j then some (.int (i * j)) else none
abbrev divI : Op2 := iop fun i j => if CDiv i j then some (.int (i / j)) else none
abbrev modI : Op2 := iop fun i j => if 0 < j then some (.int (i % j)) else none
abbrev powI : Op2 := iop fun i j => if CPow i j then some (.int (i ^ j.toNat)) else none
abbrev ltI : Op2 := iop fun i j => some (.bool (decide (i < j)))
abbrev leI : Op2 := iop fun i j => some (.bool (decide (i ≤ j)))
abbrev gtI : Op2 := iop fun i j => some (.bool (decide (j < i)))
abbrev geI : Op2 := iop fun i j => some (.bool (decide (j ≤ i)))
theorem pv_sub (ha : PV X a ta fa) (hb : PV X b tb fb) : PV X (.BinOp a .Sub b pos) (tOp (rI0 fun i j => .int (i - j)) ta tb) (binF subI fa fb) := pv_op op_sub (iop_ok0 fun i j H => .int _) ha hb
theorem pv_mulI (ha : PV X a ta fa) (hb : PV X b tb fb) : PV X (.BinOp a .Mult b pos) (tOp (rI CMul fun i j => .int (i * j)) ta tb) (binF mulI fa fb) := pv_op op_mul (iop_ok fun i j H => .int _) ha hb
theorem pv_div (ha : PV X a ta fa) (hb : PV X b tb fb) : PV X (.BinOp a .FloorDiv b pos) (tOp (rI CDiv fun i j => .int (i / j)) ta tb) (binF divI fa fb) := pv_op op_fdiv (iop_ok fun i j H => .int _) ha hb
theorem pv_mod (ha : PV X a ta fa) (hb : PV X b tb fb) : PV X (.BinOp a .Mod b pos) (tOp (rI (fun _ j => 0 < j) fun i j => .int (i % j)) ta tb) (binF modI fa fb) := pv_op op_mod (iop_ok fun i j H => .int _) ha hb
theorem pv_pow (ha : PV X a ta fa) (hb : PV X b tb fb) : PV X (.BinOp a .Pow b pos) (tOp (rI CPow fun i j => .int (i ^ j.toNat)) ta tb) (binF powI fa fb) := pv_op op_pow (iop_ok fun i j H => .int _) ha hb
theorem pv_lt (ha : PV X a ta fa) (hb : PV X b tb fb) : PV X (.Compare a [.Lt] [b] pos) (tOp (rI0 fun i j => .bl (decide (i < j))) ta tb) (binF ltI fa fb) := pv_cmp op_lt (iop_ok0 fun i j H => .bl _) ha hb (nomark _)
theorem pv_le (ha : PV X a ta fa) (hb : PV X b tb fb) : PV X (.Compare a [.LtE] [b] pos) (tOp (rI0 fun i j => .bl (decide (i ≤ j))) ta tb) (binF leI fa fb) := pv_cmp op_le (iop_ok0 fun i j H => .bl _) ha hb (nomark _)
theorem pv_gt (ha : PV X a ta fa) (hb : PV X b tb fb) : PV X (.Compare a [.Gt] [b] pos) (tOp (rI0 fun i j => .bl (decide (j < i))) ta tb) (binF gtI fa fb) := pv_cmp op_gt (iop_ok0 fun i j H => .bl _) ha hb (nomark _)
theorem pv_ge (ha : PV X a ta fa) (hb : PV X b tb fb) : PV X (.Compare a [.GtE] [b] pos) (tOp (rI0 fun i j => .bl (decide (j ≤ i))) ta tb) (binF geI fa fb) := pv_cmp op_ge (iop_ok0 fun i j H => .bl _) ha hb (nomark _)
def negF : Op1 := fun x S => match x with
  | .p (.int i) => some (.p (.int (-i)), S)
  | _ => none
theorem pv_neg (ha : PV X a ta fa) : PV X (.UnaryOp .USub a pos) (tUn (rU fun i => .int (-i)) ta) (unF negF fa) := pv_un un_neg (fun H A S x a v S' hs rx h Q hq => by
  unfold negF at h
  split at h
  · cases rx with
    | p rx =>
      cases rx
      cases h
      exact ⟨_, rfl, hq _ H A (Pre.refl A) (Keep.refl H) hs (.p (.int _))⟩
  · cases h) ha

/-! ### + -/
def rAdd (K : PySem.W.Frag) : R2 := fun x y H Q => (rI0 (fun i j => .int (i + j)) x y H Q ∨ (∃ i j, x = .str i ∧ y = .str j ∧ i.length + j.length ≤ sizeLine ∧ Q (.str (i ++ j)) H)) ∨ (rCatA K x y H Q ∨ rCat x y H Q)
def addT : Op2 := fun x y S => match x, y with
  | .p (.int i), .p (.int j) => some (.p (.int (i + j)), S)
  | .p (.str i), .p (.str j) => if i.length + j.length ≤ sizeLine then some (.p (.str (i ++ j)), S) else none
  | .p (.tuple xs), .p (.tuple ys) => if xs.length + ys.length ≤ sizeLine ∧ (xs ≠ [] ∨ ys ≠ []) then some (.p (.tuple (xs ++ ys)), S) else none
  | .loc n, .loc m => match S[n]?, S[m]? with
    | some (.lst xs), some (.lst ys) => if xs.length + ys.length ≤ sizeLine then some (.loc S.length, S ++ [.lst (xs ++ ys)]) else none
    | _, _ => none
  | _, _ => none
theorem Rt.tupOf {K : PySem.W.Frag} {H : Hp} {A : List Addr} {v : V} {ds : List D} (h : Rt K H A v (.p (.tuple ds))) : ∃ a vs, v = .ref a ∧ SqT K H a vs ∧ Rps K H vs ds := by
  cases h with
  | p h => cases h with
    | tup s r => exact ⟨_, _, rfl, s, r⟩
theorem Rt.locOf {K : PySem.W.Frag} {H : Hp} {A : List Addr} {v : V} {n : Nat} (h : Rt K H A v (.loc n)) : ∃ a, v = .ref a ∧ A[n]? = some a := by
  cases h with
  | loc e => exact ⟨_, rfl, e⟩
theorem RS.lstOf {K : PySem.W.Frag} {H : Hp} {A : List Addr} {S : Sto} (h : RS K H A S) {n : Nat} {a : Addr} {xs : List D} (e : A[n]? = some a) (q : S[n]? = some (.lst xs)) : ∃ vs, H a = some (.lst vs) ∧ Rps K H vs xs := h.ob n a _ e q
/-- a new list -/
theorem RS.newL {K : PySem.W.Frag} {H : Hp} {A : List Addr} {S : Sto} (h : RS K H A S) {p : Addr} (n : H p = none) {vs : List V} {ds : List D} (r : Rps K H vs ds) : RS K (upd H p (.lst vs)) (A ++ [p]) (S ++ [.lst ds]) :=
  h.push n ⟨vs, upd_same, r.keep (Keep.new n)⟩
theorem RS.numL {K : PySem.W.Frag} {H H' : Hp} {A : List Addr} {S : Sto} (h : RS K H A S) {p : Addr} : Rt K H' (A ++ [p]) (.ref p) (.loc S.length) := .loc (by rw [← h.len]; simp)
theorem add_ok {K : PySem.W.Frag} : OpOk K (rAdd K) addT := by
  intro H A S x y a b v S' hs rx ry h Q hq
  unfold addT at h
  split at h
  · cases rx with
    | p rx => cases rx; cases ry with
      | p ry => cases ry; cases h; exact .inl (.inl ⟨_, _, rfl, rfl, hq _ H A (Pre.refl A) (Keep.refl H) hs (.p (.int _))⟩)
  · cases rx with
    | p rx => cases rx; cases ry with
      | p ry =>
        cases ry
        split at h
        · cases h; exact .inl (.inr ⟨_, _, rfl, rfl, by assumption, hq _ H A (Pre.refl A) (Keep.refl H) hs (.p (.str _))⟩)
        · cases h
  · obtain ⟨p, vs, rfl, s1, r1⟩ := rx.tupOf
    obtain ⟨q, us, rfl, s2, r2⟩ := ry.tupOf
    split at h
    · rename_i hc
      cases h
      have l1 := r1.length
      have l2 := r2.length
      refine .inr (.inl ⟨p, q, vs, us, rfl, rfl, s1, s2, by rw [l1, l2]; exact hc.1, fun e => ?_, fun e1 e2 => ?_, fun e1 e2 z hz => ?_⟩)
      · subst e
        cases r1
        exact hq _ H A (Pre.refl A) (Keep.refl H) hs (.p (.tup s2 r2))
      · subst e2
        cases r2
        exact hq _ H A (Pre.refl A) (Keep.refl H) hs (.p (.tup s1 (by rw [List.append_nil]; exact r1)))
      · exact hq _ _ A (Pre.refl A) (Keep.new hz) (hs.new hz) (.p (.tup (SqT.of upd_same) ((r1.app r2).keep (Keep.new hz))))
    · cases h
  · obtain ⟨p, rfl, e1⟩ := rx.locOf
    obtain ⟨q, rfl, e2⟩ := ry.locOf
    split at h
    · rename_i xs ys g1 g2
      obtain ⟨vs, h1, r1⟩ := hs.lstOf e1 g1
      obtain ⟨us, h2, r2⟩ := hs.lstOf e2 g2
      split at h
      · rename_i hc
        cases h
        refine .inr (.inr ⟨p, q, vs, us, rfl, rfl, h1, h2, by rw [r1.length, r2.length]; exact hc, fun z hz => ?_⟩)
        exact hq _ _ _ (Pre.app A [z]) (Keep.new hz) (hs.newL hz (r1.app r2)) hs.numL
      · cases h
    · cases h
  · cases h
theorem op_addT : OpR X (binaryOp .Add) (rAdd X.K) := ((op_add).or op_add_str).or (op_catA.or op_cat)
theorem pv_add (ha : PV X a ta fa) (hb : PV X b tb fb) : PV X (.BinOp a .Add b pos) (tOp (rAdd X.K) ta tb) (binF addT fa fb) := pv_op op_addT add_ok ha hb

/-! ### ==, !=, in, is -/
def deep (d : D) : Bool := SeqAt.shaped d
mutual
def isP : D → Bool
  | .none | .bool _ | .int _ | .str _ => true
  | .tuple xs => isPs xs
  | _ => false
def isPs : List D → Bool
  | [] => true
  | x :: xs => isP x && isPs xs
end
/-- what a value is as data, lists told -/
def datOf (S : Sto) (t : T) : Option D := match dat t with
  | some d => some d
  | none => match t with
    | .loc n => match S[n]? with
      | some (.lst xs) => some (.list xs)
      | _ => none
    | .ro xs => some (.list xs)
    | _ => none
theorem datOf_ok {K : PySem.W.Frag} {H : Hp} {A : List Addr} {S : Sto} {x : V} {a : T} {d : D} (hs : RS K H A S) (r : Rt K H A x a) (h : datOf S a = some d) : Dp K H x d := by
  unfold datOf at h
  split at h
  · next d' e => cases h; exact (r.dat e).dp
  · split at h
    · split at h
      · next n _ xs g =>
        cases h
        obtain ⟨a, rfl, e⟩ := r.locOf
        obtain ⟨vs, h1, r1⟩ := hs.lstOf e g
        exact .lst (SqL.of h1) r1.dps
      · cases h
    · cases h
      cases r with
      | ro s r => exact .lst s.sql r.dps
    · cases h
def eqT (neg : Bool) : Op2 := fun x y S => match datOf S x, datOf S y with
  | some d, some e => if deep d = true ∧ deep e = true then some (.p (.bool (if neg then !PyData.eqv d e else PyData.eqv d e)), S) else none
  | _, _ => none
theorem eq_ok {K : PySem.W.Frag} : OpOk K (rEqD K) (eqT false) := by
  intro H A S x y a b v S' hs rx ry h Q hq
  unfold eqT at h
  split at h
  · rename_i d e g1 g2
    split at h
    · rename_i hc
      cases h
      exact ⟨d, e, datOf_ok hs rx g1, datOf_ok hs ry g2, hc.1, hc.2, hq _ H A (Pre.refl A) (Keep.refl H) hs (.p (.bl _))⟩
    · cases h
  · cases h
theorem ne_ok {K : PySem.W.Frag} : OpOk K (rNeD K) (eqT true) := by
  intro H A S x y a b v S' hs rx ry h Q hq
  unfold eqT at h
  split at h
  · rename_i d e g1 g2
    split at h
    · rename_i hc
      cases h
      exact ⟨d, e, datOf_ok hs rx g1, datOf_ok hs ry g2, hc.1, hc.2, hq _ H A (Pre.refl A) (Keep.refl H) hs (.p (.bl _))⟩
    · cases h
  · cases h
theorem pv_eq (hu : X.A.units + 64 < cLine) (ha : PV X a ta fa) (hb : PV X b tb fb) : PV X (.Compare a [.Eq] [b] pos) (tOp (rEqD X.K) ta tb) (binF (eqT false) fa fb) := pv_cmp (op_eqD hu) eq_ok ha hb (nomark _)
theorem pv_ne (hu : X.A.units + 64 < cLine) (ha : PV X a ta fa) (hb : PV X b tb fb) : PV X (.Compare a [.NotEq] [b] pos) (tOp (rNeD X.K) ta tb) (binF (eqT true) fa fb) := pv_cmp (op_neD hu) ne_ok ha hb (nomark _)
/-- x is None, x is not None -/
def isNone : T → Bool
  | .p .none => true
  | _ => false
def isN (neg : Bool) : Op2 := fun x y S => match y with
  | .p .none => some (.p (.bool (if neg then !isNone x else isNone x)), S)
  | _ => none
theorem Rt.none_iff {K : PySem.W.Frag} {H : Hp} {A : List Addr} {x : V} {a : T} (r : Rt K H A x a) : decide (x = .non) = isNone a := by
  cases r with
  | p r => cases r <;> rfl
  | loc e => rfl
  | mix s r => rfl
  | ro s r => rfl
  | ft s d r => rfl
theorem isN_ok {K : PySem.W.Frag} : OpOk K (fun x y H Q => y = .non ∧ Q (.bl (decide (x = .non))) H) (isN false) := by
  intro H A S x y a b v S' hs rx ry h Q hq
  unfold isN at h
  split at h
  · cases ry with
    | p ry =>
      cases ry; cases h
      refine ⟨rfl, ?_⟩
      rw [rx.none_iff]
      exact hq _ H A (Pre.refl A) (Keep.refl H) hs (.p (.bl _))
  · cases h
theorem notN_ok {K : PySem.W.Frag} : OpOk K (fun x y H Q => y = .non ∧ Q (.bl (!decide (x = .non))) H) (isN true) := by
  intro H A S x y a b v S' hs rx ry h Q hq
  unfold isN at h
  split at h
  · cases ry with
    | p ry =>
      cases ry; cases h
      refine ⟨rfl, ?_⟩
      rw [rx.none_iff]
      exact hq _ H A (Pre.refl A) (Keep.refl H) hs (.p (.bl _))
  · cases h
theorem pv_isN (ha : PV X a ta fa) (hb : PV X b tb fb) : PV X (.Compare a [.Is] [b] pos) (tOp (fun x y H Q => y = .non ∧ Q (.bl (decide (x = .non))) H) ta tb) (binF (isN false) fa fb) := pv_cmp op_isN isN_ok ha hb (nomark _)
theorem pv_notN (ha : PV X a ta fa) (hb : PV X b tb fb) : PV X (.Compare a [.IsNot] [b] pos) (tOp (fun x y H Q => y = .non ∧ Q (.bl (!decide (x = .non))) H) ta tb) (binF (isN true) fa fb) := pv_cmp op_notN notN_ok ha hb (nomark _)

/-! ### chains, and, or, not, if-else, tests -/
def chainF (g g' : Op2) (fa fb fc : EF) : EF := fun env S => (fa env S).bind fun x => (fb env x.2).bind fun y => (g x.1 y.1 y.2).bind fun z => match z.1 with
  | .p (.bool true) => (fc env z.2).bind fun w => g' y.1 w.1 w.2
  | .p (.bool false) => some (.p (.bool false), z.2)
  | _ => none
theorem pv_chain {c : Expr} {tc : TE} {fc : EF} {op op' : CmpOp} {r r' : R2} {g g' : Op2} (ho : OpR X (compareOp op) r) (h : OpOk X.K r g) (ho' : OpR X (compareOp op') r') (h' : OpOk X.K r' g') (ha : PV X a ta fa) (hb : PV X b tb fb) (hc : PV X c tc fc)
    (hm : lastMarks [op, op'] [b, c] = false := by first | rfl | exact nomark _) : PV X (.Compare a [op, op'] [b, c] pos) (tChain r r' ta tb tc) (chainF g g' fa fb fc) := by
  refine ⟨pe_chain ho ho' ha.pe hb.pe hc.pe hm, ?_⟩
  intro σ H A env S v S' he hs hf Q hq
  obtain ⟨⟨x, S1⟩, e1, hf⟩ := Option.bind_eq_some_iff.mp hf
  obtain ⟨⟨y, S2⟩, e2, hf⟩ := Option.bind_eq_some_iff.mp hf
  obtain ⟨⟨z, S3⟩, e3, hf⟩ := Option.bind_eq_some_iff.mp hf
  refine ha.ok σ H A env S x S1 he hs e1 _ fun u H1 A1 p1 k1 s1 r1 => ?_
  refine hb.ok σ H1 A1 env S1 y S2 (he.keep k1 p1) s1 e2 _ fun u2 H2 A2 p2 k2 s2 r2 => ?_
  refine h H2 A2 S2 u u2 x y z S3 s2 (r1.keep k2 p2) r2 e3 _ fun u3 H3 A3 p3 k3 s3 r3 => ?_
  simp only at hf
  split at hf
  · cases r3 with
    | p r3 =>
      cases r3
      refine ⟨true, rfl, ?_⟩
      rw [if_pos rfl]
      obtain ⟨⟨w, S4⟩, e4, hf⟩ := Option.bind_eq_some_iff.mp hf
      refine hc.ok σ H3 A3 env S3 w S4 (he.keep (k1.trans (k2.trans k3)) (p1.trans (p2.trans p3))) s3 e4 _ fun u4 H4 A4 p4 k4 s4 r4 => ?_
      exact h' H4 A4 S4 u2 u4 y w v S' s4 (r2.keep (k3.trans k4) (p3.trans p4)) r4 hf Q fun u5 H5 A5 p5 k5 s5 r5 =>
        hq u5 H5 A5 (p1.trans (p2.trans (p3.trans (p4.trans p5)))) (k1.trans (k2.trans (k3.trans (k4.trans k5)))) s5 r5
  · cases r3 with
    | p r3 =>
      cases r3
      cases hf
      refine ⟨false, rfl, ?_⟩
      rw [if_neg Bool.false_ne_true]
      exact hq _ H3 A3 (p1.trans (p2.trans p3)) (k1.trans (k2.trans k3)) s3 (.p (.bl false))
  · cases hf
def andF (fa fb : EF) : EF := fun env S => (fa env S).bind fun x => match x.1 with
  | .p (.bool true) => fb env x.2
  | .p (.bool false) => some (.p (.bool false), x.2)
  | _ => none
def orF (fa fb : EF) : EF := fun env S => (fa env S).bind fun x => match x.1 with
  | .p (.bool true) => some (.p (.bool true), x.2)
  | .p (.bool false) => fb env x.2
  | _ => none
def notF (fa : EF) : EF := fun env S => (fa env S).bind fun x => match x.1 with
  | .p (.bool c) => some (.p (.bool (!c)), x.2)
  | _ => none
variable {rest : List Expr}
theorem pv_one {op} (h : PV X a ta fa) : PV X (.BoolOp op [a] pos) ta fa := ⟨pe_one h.pe, h.ok⟩
theorem pv_and (ha : PV X a ta fa) (hb : PV X (.BoolOp .And (b :: rest) pos) tb fb) : PV X (.BoolOp .And (a :: b :: rest) pos) (tAndV ta tb) (andF fa fb) := by
  refine ⟨pe_and ha.pe hb.pe, ?_⟩
  intro σ H A env S v S' he hs hf Q hq
  obtain ⟨⟨x, S1⟩, e1, hf⟩ := Option.bind_eq_some_iff.mp hf
  refine ha.ok σ H A env S x S1 he hs e1 _ fun u H1 A1 p1 k1 s1 r1 => ?_
  simp only at hf
  split at hf
  · cases r1 with
    | p r1 =>
      cases r1
      refine ⟨true, rfl, ?_⟩
      rw [if_pos rfl]
      exact hb.ok σ H1 A1 env S1 v S' (he.keep k1 p1) s1 hf Q fun u2 H2 A2 p2 k2 s2 r2 => hq u2 H2 A2 (p1.trans p2) (k1.trans k2) s2 r2
  · cases r1 with
    | p r1 =>
      cases r1; cases hf
      refine ⟨false, rfl, ?_⟩
      rw [if_neg Bool.false_ne_true]
      exact hq _ H1 A1 p1 k1 s1 (.p (.bl false))
  · cases hf
theorem pv_or (ha : PV X a ta fa) (hb : PV X (.BoolOp .Or (b :: rest) pos) tb fb) : PV X (.BoolOp .Or (a :: b :: rest) pos) (tOrV ta tb) (orF fa fb) := by
  refine ⟨pe_or ha.pe hb.pe, ?_⟩
  intro σ H A env S v S' he hs hf Q hq
  obtain ⟨⟨x, S1⟩, e1, hf⟩ := Option.bind_eq_some_iff.mp hf
  refine ha.ok σ H A env S x S1 he hs e1 _ fun u H1 A1 p1 k1 s1 r1 => ?_
  simp only at hf
  split at hf
  · cases r1 with
    | p r1 =>
      cases r1; cases hf
      refine ⟨true, rfl, ?_⟩
      rw [if_pos rfl]
      exact hq _ H1 A1 p1 k1 s1 (.p (.bl true))
  · cases r1 with
    | p r1 =>
      cases r1
      refine ⟨false, rfl, ?_⟩
      rw [if_neg Bool.false_ne_true]
      exact hb.ok σ H1 A1 env S1 v S' (he.keep k1 p1) s1 hf Q fun u2 H2 A2 p2 k2 s2 r2 => hq u2 H2 A2 (p1.trans p2) (k1.trans k2) s2 r2
  · cases hf
theorem pv_not (ha : PV X a ta fa) : PV X (.UnaryOp .Not a pos) (tNotV ta) (notF fa) := by
  refine ⟨pe_not ha.pe, ?_⟩
  intro σ H A env S v S' he hs hf Q hq
  obtain ⟨⟨x, S1⟩, e1, hf⟩ := Option.bind_eq_some_iff.mp hf
  refine ha.ok σ H A env S x S1 he hs e1 _ fun u H1 A1 p1 k1 s1 r1 => ?_
  simp only at hf
  split at hf
  · cases r1 with
    | p r1 =>
      cases r1; cases hf
      exact ⟨_, rfl, hq _ H1 A1 p1 k1 s1 (.p (.bl _))⟩
  · cases hf
/-! as tests -/
def asT (fa : EF) : TF := fun env S => (fa env S).bind fun x => match x.1 with
  | .p (.bool c) => some (c, x.2)
  | _ => none
theorem asT_ok {K : PySem.W.Frag} (h : EOk K ta fa) : TOk K (tB ta) (asT fa) := by
  intro σ H A env S v S' he hs hf Q hq
  obtain ⟨⟨x, S1⟩, e1, hf⟩ := Option.bind_eq_some_iff.mp hf
  refine h σ H A env S x S1 he hs e1 _ fun u H1 A1 p1 k1 s1 r1 => ?_
  simp only at hf
  split at hf
  · cases r1 with
    | p r1 =>
      cases r1; cases hf
      exact ⟨_, rfl, hq H1 A1 p1 k1 s1⟩
  · cases hf
/-- a value that is a bool, as a test (no comparison, and, or, not) -/
theorem pvt_val (h : PV X e te fe) (he : ∀ whole, isTrue e X.env whole = (do let v ← whole; standAt e.pos; holding [v] (truthy v)) := by intro _; rfl) : PVT X e (tB te) (asT fe) := ⟨pt_val h.pe he, asT_ok h.ok⟩
theorem pvt_cmp {op : CmpOp} {r : R2} {g : Op2} (ho : OpR X (compareOp op) r) (h : OpOk X.K r g) (ha : PV X a ta fa) (hb : PV X b tb fb) (hm : behindInMarks op b = false) : PVT X (.Compare a [op] [b] pos) (tB (tOp r ta tb)) (asT (binF g fa fb)) :=
  ⟨pt_cmpR ho ha.pe hb.pe hm, asT_ok (op_ok h ha.ok hb.ok)⟩
end
end Pv
set_option maxHeartbeats 4000000
/-! Pv3: tests, displays, statements, for, while, defs. -/
namespace Pv
open PySem PySem.Spec PyProof.Rows L2

section
variable {X : Cx} {a b e c : Expr} {es rest : List Expr} {ta tb te : TE} {fa fb fe : EF} {pos : Pos} {t u : TT} {f g : TF}
/-! ### tests -/
theorem pvt_chain {tc : TE} {fc : EF} {op op' : CmpOp} {r r' : R2} {g g' : Op2} (ho : OpR X (compareOp op) r) (h : OpOk X.K r g) (ho' : OpR X (compareOp op') r') (h' : OpOk X.K r' g') (ha : PV X a ta fa) (hb : PV X b tb fb) (hc : PV X c tc fc)
    (hm : lastMarks [op, op'] [b, c] = false := by with_unfolding_all rfl) : PVT X (.Compare a [op, op'] [b, c] pos) (tTest (tChain r r' ta tb tc)) (asT (chainF g g' fa fb fc)) :=
  ⟨pt_chain ho ho' ha.pe hb.pe hc.pe hm, asT_ok (pv_chain (pos := pos) ho h ho' h' ha hb hc hm).ok⟩
def andT (f g : TF) : TF := fun env S => (f env S).bind fun x => if x.1 = true then g env x.2 else some (false, x.2)
def orT (f g : TF) : TF := fun env S => (f env S).bind fun x => if x.1 = true then some (true, x.2) else g env x.2
def notT (f : TF) : TF := fun env S => (f env S).map fun x => (!x.1, x.2)
theorem pvw_and1 (h : PVT X a t f) : PVW X (.BoolOp .And [a] pos) t f := ⟨pw_and1 h.pt, h.ok⟩
theorem pvw_or1 (h : PVT X a t f) : PVW X (.BoolOp .Or [a] pos) t f := ⟨pw_or1 h.pt, h.ok⟩
theorem pvw_and (ha : PVT X a t f) (hb : PVW X (.BoolOp .And (b :: rest) pos) u g) : PVW X (.BoolOp .And (a :: b :: rest) pos) (tAnd t u) (andT f g) := by
  refine ⟨pw_and ha.pt hb.pw, ?_⟩
  intro σ H A env S v S' he hs hf Q hq
  obtain ⟨⟨x, S1⟩, e1, hf⟩ := Option.bind_eq_some_iff.mp hf
  refine ha.ok σ H A env S x S1 he hs e1 _ fun H1 A1 p1 k1 s1 => ?_
  cases x with
  | true =>
    rw [if_pos rfl]
    exact hb.ok σ H1 A1 env S1 v S' (he.keep k1 p1) s1 hf Q fun H2 A2 p2 k2 s2 => hq H2 A2 (p1.trans p2) (k1.trans k2) s2
  | false =>
    cases hf
    rw [if_neg Bool.false_ne_true]
    exact hq H1 A1 p1 k1 s1
theorem pvw_or (ha : PVT X a t f) (hb : PVW X (.BoolOp .Or (b :: rest) pos) u g) : PVW X (.BoolOp .Or (a :: b :: rest) pos) (tOr t u) (orT f g) := by
  refine ⟨pw_or ha.pt hb.pw, ?_⟩
  intro σ H A env S v S' he hs hf Q hq
  obtain ⟨⟨x, S1⟩, e1, hf⟩ := Option.bind_eq_some_iff.mp hf
  refine ha.ok σ H A env S x S1 he hs e1 _ fun H1 A1 p1 k1 s1 => ?_
  cases x with
  | true =>
    cases hf
    rw [if_pos rfl]
    exact hq H1 A1 p1 k1 s1
  | false =>
    rw [if_neg Bool.false_ne_true]
    exact hb.ok σ H1 A1 env S1 v S' (he.keep k1 p1) s1 hf Q fun H2 A2 p2 k2 s2 => hq H2 A2 (p1.trans p2) (k1.trans k2) s2
theorem pvt_not (ha : PVT X a t f) : PVT X (.UnaryOp .Not a pos) (tNot t) (notT f) := by
  refine ⟨pt_not ha.pt, ?_⟩
  intro σ H A env S v S' he hs hf Q hq
  obtain ⟨⟨x, S1⟩, e1, hf⟩ := Option.map_eq_some_iff.mp hf
  cases hf
  exact ha.ok σ H A env S x S1 he hs e1 _ hq
def ifF (f : TF) (fa fb : EF) : EF := fun env S => (f env S).bind fun x => if x.1 = true then fa env x.2 else fb env x.2
theorem pv_if (hc : PVT X c t f) (ha : PV X a ta fa) (hb : PV X b tb fb) : PV X (.IfExp c a b pos) (tIf t ta tb) (ifF f fa fb) := by
  refine ⟨pe_ifExp hc.pt ha.pe hb.pe, ?_⟩
  intro σ H A env S v S' he hs hf Q hq
  obtain ⟨⟨x, S1⟩, e1, hf⟩ := Option.bind_eq_some_iff.mp hf
  refine hc.ok σ H A env S x S1 he hs e1 _ fun H1 A1 p1 k1 s1 => ?_
  cases x with
  | true =>
    rw [if_pos rfl]
    exact ha.ok σ H1 A1 env S1 v S' (he.keep k1 p1) s1 hf Q fun u2 H2 A2 p2 k2 s2 r2 => hq u2 H2 A2 (p1.trans p2) (k1.trans k2) s2 r2
  | false =>
    rw [if_neg Bool.false_ne_true]
    exact hb.ok σ H1 A1 env S1 v S' (he.keep k1 p1) s1 hf Q fun u2 H2 A2 p2 k2 s2 r2 => hq u2 H2 A2 (p1.trans p2) (k1.trans k2) s2 r2

/-! ### argument lists, displays -/
variable {tA : TA} {fA : AF}
def nilF : AF := fun _ S => some ([], S)
def consF (f : EF) (g : AF) : AF := fun env S => (f env S).bind fun x => (g env x.2).map fun y => (x.1 :: y.1, y.2)
theorem pva_nil : PVA X [] tNil nilF := ⟨pa_nil, fun σ H A env S r S' he hs h Q hq => by cases h; exact hq [] H A (Pre.refl A) (Keep.refl H) hs .nil⟩
theorem pva_cons (ha : PV X e te fe) (hr : PVA X es tA fA) (hs : starEach (e :: es) X.env = (false, eval e X.env) :: starEach es X.env := by rfl) : PVA X (e :: es) (tCons te tA) (consF fe fA) := by
  refine ⟨pa_cons ha.pe hr.pa hs, ?_⟩
  intro σ H A env S v S' he hs hf Q hq
  obtain ⟨⟨x, S1⟩, e1, hf⟩ := Option.bind_eq_some_iff.mp hf
  obtain ⟨⟨y, S2⟩, e2, hf⟩ := Option.map_eq_some_iff.mp hf
  cases hf
  refine ha.ok σ H A env S x S1 he hs e1 _ fun u H1 A1 p1 k1 s1 r1 => ?_
  exact hr.ok σ H1 A1 env S1 y S2 (he.keep k1 p1) s1 e2 _ fun us H2 A2 p2 k2 s2 r2 => hq _ H2 A2 (p1.trans p2) (k1.trans k2) s2 (.cons (r1.keep k2 p2) r2)
/-- all data -/
def allP : List T → Option (List D)
  | [] => some []
  | .p d :: ts => (allP ts).map fun ds => d :: ds
  | _ :: _ => none
theorem allP_ok {K : PySem.W.Frag} {H : Hp} {A : List Addr} : ∀ {ts : List T} {ds : List D} {vs : List V}, allP ts = some ds → Rts K H A vs ts → Rps K H vs ds
  | [], _, _, h, r => by cases h; cases r; exact .nil
  | .p d :: ts, _, _, h, r => by
    obtain ⟨ds, e, h⟩ := Option.map_eq_some_iff.mp h
    subst h
    cases r with
    | cons a b => cases a with
      | p a => exact .cons a (allP_ok e b)
  | .loc _ :: ts, _, _, h, r => nomatch h
  | .mix _ :: ts, _, _, h, r => nomatch h
  | .ro _ :: ts, _, _, h, r => nomatch h
  | .ft _ :: ts, _, _, h, r => nomatch h
theorem allP_p : ∀ ds : List D, allP (ds.map T.p) = some ds
  | [] => rfl
  | d :: ds => by show (allP (ds.map T.p)).map _ = _; rw [allP_p ds]; rfl
def tupT (ts : List T) : T := match allP ts with
  | some ds => .p (.tuple ds)
  | none => .mix ts
def tupF (f : AF) : EF := fun env S => (f env S).bind fun x => if x.1.length ≤ sizeLine then some (tupT x.1, x.2) else none
theorem pv_tup {x1} (h : PVA X es tA fA) : PV X (.Tuple es x1 pos) (tTup tA) (tupF fA) := by
  refine ⟨pe_tup h.pa, ?_⟩
  intro σ H A env S v S' he hs hf Q hq
  obtain ⟨⟨x, S1⟩, e1, hf⟩ := Option.bind_eq_some_iff.mp hf
  simp only at hf
  split at hf
  · next hz =>
    cases hf
    refine h.ok σ H A env S x _ he hs e1 _ fun us H1 A1 p1 k1 s1 r1 => ⟨by rw [r1.length]; exact hz, fun p hp => ?_⟩
    refine hq _ _ A1 p1 (k1.trans (Keep.new hp)) (s1.new hp) ?_
    unfold tupT
    split
    · next ds q => exact .p (.tup (SqT.of upd_same) ((allP_ok q r1).keep (Keep.new hp)))
    · exact .mix (SqT.of upd_same) (r1.keep (Keep.new hp) (Pre.refl A1))
  · cases hf
def lstF (f : AF) : EF := fun env S => (f env S).bind fun x => match allP x.1 with
  | some ds => if ds.length ≤ sizeLine then some (.loc x.2.length, x.2 ++ [.lst ds]) else none
  | none => none
theorem pv_lst (h : PVA X es tA fA) : PV X (.List es pos) (tLst tA) (lstF fA) := by
  refine ⟨pe_lst h.pa, ?_⟩
  intro σ H A env S v S' he hs hf Q hq
  obtain ⟨⟨x, S1⟩, e1, hf⟩ := Option.bind_eq_some_iff.mp hf
  simp only at hf
  split at hf
  · next ds q =>
    split at hf
    · next hz =>
      cases hf
      refine h.ok σ H A env S x _ he hs e1 _ fun us H1 A1 p1 k1 s1 r1 => ?_
      have r2 := allP_ok q r1
      refine ⟨by rw [r2.length]; exact hz, fun p hp => ?_⟩
      exact hq _ _ _ (p1.trans (Pre.app A1 [p])) (k1.trans (Keep.new hp)) (s1.newL hp r2) s1.numL
    · cases hf
  · cases hf

/-! ### what is no longer needed -/
mutual
def below (n : Nat) : T → Bool
  | .p _ => true
  | .ro _ => true
  | .ft _ => true
  | .loc k => decide (k < n)
  | .mix ts => belows n ts
def belows (n : Nat) : List T → Bool
  | [] => true
  | t :: ts => below n t && belows n ts
end
mutual
theorem Rt.low {K : PySem.W.Frag} {H : Hp} {A A' : List Addr} {n : Nat} (q : SameTo n A A') : ∀ {v : V} {t : T}, Rt K H A v t → below n t = true → Rt K H A' v t
  | _, _, .p r, _ => .p r
  | _, _, .ro s r, _ => .ro s r
  | _, _, .ft s d r, _ => .ft s d r
  | _, _, .loc e, h => .loc (q _ _ (by simpa [below] using h) e)
  | _, _, .mix s r, h => .mix s (Rts.low q r (by simpa [below] using h))
theorem Rts.low {K : PySem.W.Frag} {H : Hp} {A A' : List Addr} {n : Nat} (q : SameTo n A A') : ∀ {v : List V} {t : List T}, Rts K H A v t → belows n t = true → Rts K H A' v t
  | _, _, .nil, _ => .nil
  | _, _, .cons a b, h => by
    have h' := (Bool.and_eq_true_iff.mp (show (below n _ && belows n _) = true from h))
    exact .cons (Rt.low q a h'.1) (Rts.low q b h'.2)
end
def keepSlot (n : Nat) (t : Option T) : Option T := match t with
  | some t => if below n t = true then some t else none
  | none => none
def forget (n : Nat) (env : Env) : Env := env.map (keepSlot n)
theorem RE.low {K : PySem.W.Frag} {H : Hp} {A A' : List Addr} {n : Nat} (q : SameTo n A A') {σ : L2.St} {env : Env} (h : RE K H A σ env) : RE K H A' σ (forget n env) := by
  refine ⟨by simp [forget, h.1], fun i t e => ?_⟩
  unfold forget at e
  rw [List.getElem?_map] at e
  cases g : env[i]? with
  | none => rw [g] at e; cases e
  | some s =>
    rw [g] at e
    have e' : keepSlot n s = some t := Option.some.inj e
    cases s with
    | none => cases e'
    | some t' =>
      unfold keepSlot at e'
      simp only at e'
      split at e'
      · cases e'
        obtain ⟨v, h1, h2⟩ := h.2 i _ g
        exact ⟨v, h1, h2.low q (by assumption)⟩
      · cases e'
theorem sameTake {A : List Addr} (n : Nat) : SameTo n A (A.take n) := fun i a hi e => by rw [List.getElem?_take_of_lt hi]; exact e
theorem preTake {A A' : List Addr} (p : Pre A A') : Pre A (A'.take A.length) := fun i a e => by
  rw [List.getElem?_take_of_lt (List.getElem?_eq_some_iff.mp e).1]; exact p i a e

/-! the objects that a value still needs, put behind the first n -/
def gcT (n m : Nat) : T → List Nat → Option (T × List Nat)
  | .p d, u => some (.p d, u)
  | .ro xs, u => some (.ro xs, u)
  | .ft xs, u => some (.ft xs, u)
  | .loc k, u => if k < n then some (.loc k, u) else if k < m ∧ k ∉ u then some (.loc (n + u.length), u ++ [k]) else none
  | .mix ts, u => if belows n ts = true then some (.mix ts, u) else none
def gcTs (n m : Nat) : List T → List Nat → Option (List T × List Nat)
  | [], u => some ([], u)
  | t :: ts, u => (gcT n m t u).bind fun x => (gcTs n m ts x.2).map fun y => (x.1 :: y.1, y.2)
def gcOb (n : Nat) (S : Sto) (u : List Nat) : Sto := S.take n ++ u.map fun k => S.getD k (.lst [])
def gcV (n : Nat) (v : T) (S : Sto) : Option (T × Sto) := match v with
  | .p d => some (.p d, S.take n)
  | .mix ts => (gcTs n S.length ts []).map fun x => (.mix x.1, gcOb n S x.2)
  | v => (gcT n S.length v []).map fun x => (x.1, gcOb n S x.2)
def gcA (n : Nat) (A : List Addr) (u : List Nat) : List Addr := A.take n ++ u.map fun k => A.getD k 0
theorem gcA_same {n : Nat} {A : List Addr} (hn : n ≤ A.length) (u : List Nat) : SameTo n A (gcA n A u) := fun i a hi e => by
  unfold gcA
  rw [List.getElem?_append_left (by rw [List.length_take]; omega), List.getElem?_take_of_lt hi]
  exact e
structure GcU (n m : Nat) (u : List Nat) : Prop where
  nd : u.Nodup
  lo : ∀ k ∈ u, n ≤ k ∧ k < m
theorem gcRS {K : PySem.W.Frag} {H : Hp} {A : List Addr} {S : Sto} (hs : RS K H A S) {n : Nat} (hn : n ≤ S.length) {u : List Nat} (hu : GcU n S.length u) : RS K H (gcA n A u) (gcOb n S u) := by
  have hl := hs.len
  have idx : ∀ {i : Nat}, i < A.length → ∃ a, A[i]? = some a ∧ A.getD i 0 = a := fun {i} hi => ⟨A[i], List.getElem?_eq_getElem hi, by simp [List.getD, List.getElem?_eq_getElem hi]⟩
  have injA : ∀ {i j : Nat}, i < A.length → j < A.length → A.getD i 0 = A.getD j 0 → i = j := fun {i j} hi hj e => by
    refine (List.getElem?_inj hi hs.nd).mp ?_
    obtain ⟨x, e1, e2⟩ := idx hi
    obtain ⟨y, e3, e4⟩ := idx hj
    rw [e1, e3, ← e2, ← e4, e]
  refine ⟨by simp [gcA, gcOb, hl], ?_, fun i a o e q => ?_⟩
  · unfold gcA
    rw [List.nodup_append]
    refine ⟨hs.nd.sublist (List.take_sublist _ _), ?_, fun a ha b hb e => ?_⟩
    · rw [List.nodup_iff_pairwise_ne, List.pairwise_map]
      refine List.Pairwise.imp_of_mem (fun {x y} hx hy ne e => ne (injA (hl ▸ (hu.lo x hx).2) (hl ▸ (hu.lo y hy).2) e)) (List.nodup_iff_pairwise_ne.mp hu.nd)
    · obtain ⟨i, hi⟩ := List.getElem?_of_mem ha
      obtain ⟨k, hk, e2⟩ := List.mem_map.mp hb
      have h1 : i < n := by
        have := (List.getElem?_eq_some_iff.mp hi).1
        rw [List.length_take] at this; omega
      rw [List.getElem?_take_of_lt h1] at hi
      have hiA := (List.getElem?_eq_some_iff.mp hi).1
      have : i = k := injA hiA (hl ▸ (hu.lo k hk).2) (by
        rw [e2, ← e]
        simp [List.getD, hi])
      have := (hu.lo k hk).1
      omega
  · unfold gcA at e
    unfold gcOb at q
    have lA : (A.take n).length = n := by rw [List.length_take]; omega
    have lS : (S.take n).length = n := by rw [List.length_take]; omega
    by_cases hi : i < n
    · rw [List.getElem?_append_left (by omega), List.getElem?_take_of_lt hi] at e
      rw [List.getElem?_append_left (by omega), List.getElem?_take_of_lt hi] at q
      exact hs.ob i a o e q
    · rw [List.getElem?_append_right (by omega), lA, List.getElem?_map] at e
      rw [List.getElem?_append_right (by omega), lS, List.getElem?_map] at q
      cases g : u[i - n]? with
      | none => rw [g] at e; cases e
      | some k =>
        rw [g] at e q
        have hk := hu.lo k (List.mem_of_getElem? g)
        have e' : A.getD k 0 = a := Option.some.inj e
        have q' : S.getD k (.lst []) = o := Option.some.inj q
        obtain ⟨x, e1, e2⟩ := idx (hl ▸ hk.2)
        rw [e2] at e'; subst e'
        refine hs.ob k x o e1 ?_
        rw [List.getElem?_eq_getElem hk.2]
        rw [← q']
        simp [List.getD, List.getElem?_eq_getElem hk.2]
theorem gcT_ok {K : PySem.W.Frag} {H : Hp} {A : List Addr} {S : Sto} (hs : RS K H A S) {n : Nat} (hn : n ≤ S.length) {v : V} {t t' : T} {u u' : List Nat} (hu : GcU n S.length u) (r : Rt K H A v t) (h : gcT n S.length t u = some (t', u')) :
    GcU n S.length u' ∧ (∃ w, u' = u ++ w) ∧ ∀ w, Rt K H (gcA n A (u' ++ w)) v t' := by
  have hl := hs.len
  cases r with
  | p r => cases h; exact ⟨hu, ⟨[], by simp⟩, fun w => .p r⟩
  | ro s r => cases h; exact ⟨hu, ⟨[], by simp⟩, fun w => .ro s r⟩
  | ft s d r => cases h; exact ⟨hu, ⟨[], by simp⟩, fun w => .ft s d r⟩
  | mix s r =>
    simp only [gcT] at h
    split at h
    · next hb =>
      cases h
      exact ⟨hu, ⟨[], by simp⟩, fun w => .mix s (Rts.low (gcA_same (by omega) _) r hb)⟩
    · cases h
  | @loc k a e =>
    simp only [gcT] at h
    split at h
    · next hk =>
      cases h
      exact ⟨hu, ⟨[], by simp⟩, fun w => .loc (gcA_same (by omega) _ k _ hk e)⟩
    · next hk =>
      split at h
      · next hc =>
        cases h
        refine ⟨⟨?_, fun j hj => ?_⟩, ⟨[k], rfl⟩, fun w => .loc ?_⟩
        · rw [List.nodup_append]
          exact ⟨hu.nd, by simp, fun x hx y hy e9 => by
            have : y = k := by simpa using hy
            subst this; subst e9; exact hc.2 hx⟩
        · rcases List.mem_append.mp hj with hj | hj
          · exact hu.lo j hj
          · have : j = k := by simpa using hj
            subst this; omega
        · unfold gcA
          have lA : (A.take n).length = n := by rw [List.length_take]; omega
          rw [List.getElem?_append_right (by omega), lA, List.getElem?_map, List.append_assoc, Nat.add_sub_cancel_left, List.getElem?_append_right (Nat.le_refl _)]
          simp [List.getD, e]
      · cases h
theorem gcTs_ok {K : PySem.W.Frag} {H : Hp} {A : List Addr} {S : Sto} (hs : RS K H A S) {n : Nat} (hn : n ≤ S.length) : ∀ {vs : List V} {ts ts' : List T} {u u' : List Nat} (hu : GcU n S.length u) (r : Rts K H A vs ts) (h : gcTs n S.length ts u = some (ts', u')),
    GcU n S.length u' ∧ (∃ w, u' = u ++ w) ∧ ∀ w, Rts K H (gcA n A (u' ++ w)) vs ts'
  | _, [], _, _, _, hu, r, h => by cases h; cases r; exact ⟨hu, ⟨[], by simp⟩, fun w => .nil⟩
  | _, t :: ts, _, _, _, hu, r, h => by
    cases r with
    | cons r1 r2 =>
      obtain ⟨⟨x, u1⟩, e1, h⟩ := Option.bind_eq_some_iff.mp h
      obtain ⟨⟨y, u2⟩, e2, h⟩ := Option.map_eq_some_iff.mp h
      cases h
      obtain ⟨g1, ⟨w1, rfl⟩, q1⟩ := gcT_ok hs hn hu r1 e1
      obtain ⟨g2, ⟨w2, rfl⟩, q2⟩ := gcTs_ok hs hn g1 r2 e2
      exact ⟨g2, ⟨w1 ++ w2, by simp⟩, fun w => .cons (by have := q1 (w2 ++ w); rwa [← List.append_assoc] at this) (q2 w)⟩
theorem gc_ok {K : PySem.W.Frag} {H : Hp} {A : List Addr} {S S' : Sto} (hs : RS K H A S) {n : Nat} (hn : n ≤ S.length) {v : V} {t t' : T} (r : Rt K H A v t) (h : gcV n t S = some (t', S')) :
    ∃ A', SameTo n A A' ∧ RS K H A' S' ∧ Rt K H A' v t' := by
  have h0 : GcU n S.length [] := ⟨by simp, fun _ h => by simp at h⟩
  cases r with
  | p r => cases h; exact ⟨A.take n, sameTake n, hs.take n, .p r⟩
  | mix s r =>
    obtain ⟨⟨x, u⟩, e, h⟩ := Option.map_eq_some_iff.mp h
    cases h
    obtain ⟨g, _, q⟩ := gcTs_ok hs hn h0 r e
    exact ⟨gcA n A u, gcA_same (by rw [hs.len]; exact hn) u, gcRS hs hn g, .mix s (by have := q []; rwa [List.append_nil] at this)⟩
  | ro s r =>
    have h : (gcT n S.length (.ro _) []).map (fun x => (x.1, gcOb n S x.2)) = some (t', S') := h
    obtain ⟨⟨x, u⟩, e, h⟩ := Option.map_eq_some_iff.mp h
    cases h
    cases e
    exact ⟨gcA n A [], gcA_same (by rw [hs.len]; exact hn) [], gcRS hs hn h0, .ro s r⟩
  | ft s d r =>
    have h : (gcT n S.length (.ft _) []).map (fun x => (x.1, gcOb n S x.2)) = some (t', S') := h
    obtain ⟨⟨x, u⟩, e, h⟩ := Option.map_eq_some_iff.mp h
    cases h
    cases e
    exact ⟨gcA n A [], gcA_same (by rw [hs.len]; exact hn) [], gcRS hs hn h0, .ft s d r⟩
  | loc e1 =>
    have h : (gcT n S.length (.loc _) []).map (fun x => (x.1, gcOb n S x.2)) = some (t', S') := h
    obtain ⟨⟨x, u⟩, e, h⟩ := Option.map_eq_some_iff.mp h
    cases h
    obtain ⟨g, _, q⟩ := gcT_ok hs hn h0 (.loc e1 : Rt K H A _ _) e
    exact ⟨gcA n A u, gcA_same (by rw [hs.len]; exact hn) u, gcRS hs hn g, by have := q []; rwa [List.append_nil] at this⟩
end
end Pv
set_option maxHeartbeats 4000000
/-! Pv4: statements, for, while, defs and their calls. -/
namespace Pv
open PySem PySem.Spec PyProof.Rows L2

section
variable {X : Cx} {a b e c : Expr} {es rest : List Expr} {ta tb te : TE} {fa fb fe : EF} {pos : Pos} {t : TT} {f : TF} {ts us : TS} {s1 s2 : SF} {st : Stmt} {sts : List Stmt}

theorem EndOk.sub {K : PySem.W.Frag} {H : Hp} {A : List Addr} {o : Out} {env : Env} {D D' : Ends} (h : EndOk K H A o env D) (h1 : ∀ σ, D.nx σ H → D'.nx σ H) (h2 : ∀ v, D.rt v H → D'.rt v H) (h3 : ∀ σ, D.bk σ H → D'.bk σ H) (h4 : ∀ σ, D.ct σ H → D'.ct σ H) : EndOk K H A o env D' := by
  cases o with
  | nx => exact fun σ r => h1 σ (h σ r)
  | bk => exact fun σ r => h3 σ (h σ r)
  | ct => exact fun σ r => h4 σ (h σ r)
  | rt r => exact fun v q => h2 v (h v q)

/-! ### blocks -/
def nextS : SF := fun _ env S => some (.nx, env, S)
def seqS (f g : SF) : SF := fun n env S => (f n env S).bind fun x => match x.1 with
  | .nx => g n x.2.1 x.2.2
  | o => some (o, x.2.1, x.2.2)
theorem pvb_nil : PVB X [] tNext nextS := ⟨pss_nil, fun n σ H A env S o env' S' hn he hs h D hD => by cases h; exact hD H A (Pre.refl A |>.sameTo n) (Keep.refl H) hs σ he⟩
theorem pvb_cons (h1 : PVS X st ts s1) (h2 : PVB X sts us s2) : PVB X (st :: sts) (tSeq ts us) (seqS s1 s2) := by
  refine ⟨pss_cons h1.ps h2.ps, ?_⟩
  intro n σ H A env S o env' S' hn he hs hf D hD
  obtain ⟨⟨o1, env1, S1⟩, e1, hf⟩ := Option.bind_eq_some_iff.mp hf
  refine h1.ok n σ H A env S o1 env1 S1 hn he hs e1 _ fun H1 A1 p1 k1 r1 => ?_
  cases o1 with
  | nx =>
    intro σ1 he1
    refine h2.ok n σ1 H1 A1 env1 S1 o env' S' ?_ he1 r1 hf D fun H2 A2 p2 k2 r2 => hD H2 A2 (p1.trans p2) (k1.trans k2) r2
    rw [← r1.len]
    exact p1.le (by rw [hs.len]; exact hn)
  | bk => cases hf; exact fun σ1 he1 => hD H1 A1 p1 k1 r1 σ1 he1
  | ct => cases hf; exact fun σ1 he1 => hD H1 A1 p1 k1 r1 σ1 he1
  | rt r => cases hf; exact fun v q => hD H1 A1 p1 k1 r1 v q
theorem pvb_one (h1 : PVS X st ts s1) : PVB X [st] ts s1 := ⟨pss_one h1.ps, h1.ok⟩
def breakS : SF := fun _ env S => some (.bk, env, S)
def contS : SF := fun _ env S => some (.ct, env, S)
theorem pvs_pass : PVS X (.Pass pos) tNext nextS := ⟨ps_pass, pvb_nil.ok⟩
theorem pvs_break : PVS X (.Break pos) tBreak breakS := ⟨ps_break, fun n σ H A env S o env' S' hn he hs h D hD => by cases h; exact hD H A (Pre.refl A |>.sameTo n) (Keep.refl H) hs σ he⟩
theorem pvs_cont : PVS X (.Continue pos) tCont contS := ⟨ps_continue, fun n σ H A env S o env' S' hn he hs h D hD => by cases h; exact hD H A (Pre.refl A |>.sameTo n) (Keep.refl H) hs σ he⟩

/-! ### small statements -/
def exprS (f : EF) : SF := fun _ env S => (f env S).map fun x => (.nx, env, x.2.take S.length)
theorem pvs_expr (h : PV X e te fe) (hs : swapsWith e none pos.line X.env = pure false := by rfl) : PVS X (.Expr e pos) (tDrop te) (exprS fe) := by
  refine ⟨ps_expr h.pe hs, ?_⟩
  intro n σ H A env S o env' S' hn he hs hf D hD
  obtain ⟨⟨x, S1⟩, e1, hf⟩ := Option.map_eq_some_iff.mp hf
  cases hf
  refine h.ok σ H A env S x S1 he hs e1 _ fun u H1 A1 p1 k1 r1 q1 => ?_
  have p2 : Pre A (A1.take S.length) := by rw [← hs.len]; exact preTake p1
  exact hD H1 _ (p2.sameTo n) k1 (r1.take S.length) σ (he.keep k1 p2)
def retS (f : EF) : SF := fun _ env S => (f env S).map fun x => (.rt x.1, env, x.2)
theorem pvs_ret (h : PV X e te fe) : PVS X (.Return (some e) pos) (tRet te) (retS fe) := by
  refine ⟨ps_ret h.pe, ?_⟩
  intro n σ H A env S o env' S' hn he hs hf D hD
  obtain ⟨⟨x, S1⟩, e1, hf⟩ := Option.map_eq_some_iff.mp hf
  cases hf
  exact h.ok σ H A env S x S1 he hs e1 _ fun u H1 A1 p1 k1 r1 q1 => hD H1 A1 (p1.sameTo n) k1 r1 u q1
def ifS (f : TF) (s1 s2 : SF) : SF := fun n env S => (f env S).bind fun x => if x.1 = true then s1 n env (x.2.take S.length) else s2 n env (x.2.take S.length)
theorem pvs_if {bo el : List Stmt} (hc : PVT X c t f) (h1 : PVB X bo ts s1) (h2 : PVB X el us s2) : PVS X (.If c bo el pos) (tIfS t ts us) (ifS f s1 s2) := by
  refine ⟨ps_if hc.pt h1.ps h2.ps, ?_⟩
  intro n σ H A env S o env' S' hn he hs hf D hD
  obtain ⟨⟨x, S1⟩, e1, hf⟩ := Option.bind_eq_some_iff.mp hf
  refine hc.ok σ H A env S x S1 he hs e1 _ fun H1 A1 p1 k1 r1 => ?_
  have p2 : Pre A (A1.take S.length) := by rw [← hs.len]; exact preTake p1
  have l2 : n ≤ (S1.take S.length).length := by
    have := p1.len
    rw [hs.len, r1.len] at this
    rw [List.length_take]; omega
  cases x with
  | true =>
    rw [if_pos rfl]
    exact h1.ok n σ H1 _ env _ o env' S' l2 (he.keep k1 p2) (r1.take S.length) hf D fun H2 A2 p3 k2 r2 => hD H2 A2 ((p2.sameTo n).trans p3) (k1.trans k2) r2
  | false =>
    rw [if_neg Bool.false_ne_true]
    exact h2.ok n σ H1 _ env _ o env' S' l2 (he.keep k1 p2) (r1.take S.length) hf D fun H2 A2 p3 k2 r2 => hD H2 A2 ((p2.sameTo n).trans p3) (k1.trans k2) r2

/-! ### targets -/
abbrev GF := T → Env → Sto → Option (Env × Sto)
abbrev GFs := List T → Env → Sto → Option (Env × Sto)
def GOk (K : PySem.W.Frag) (g : TG) (f : GF) : Prop := ∀ (σ : L2.St) (H : Hp) (A : List Addr) (env : Env) (S : Sto) (v : V) (x : T) (env' : Env) (S' : Sto), RE K H A σ env → RS K H A S → Rt K H A v x → f x env S = some (env', S') →
  ∀ Q : L2.St → Hp → Prop, (∀ σ' H' A', Pre A A' → Keep H H' → RS K H' A' S' → RE K H' A' σ' env' → Q σ' H') → g v σ H Q
def GsOk (K : PySem.W.Frag) (g : TGs) (f : GFs) : Prop := ∀ (σ : L2.St) (H : Hp) (A : List Addr) (env : Env) (S : Sto) (v : List V) (x : List T) (env' : Env) (S' : Sto), RE K H A σ env → RS K H A S → Rts K H A v x → f x env S = some (env', S') →
  ∀ Q : L2.St → Hp → Prop, (∀ σ' H' A', Pre A A' → Keep H H' → RS K H' A' S' → RE K H' A' σ' env' → Q σ' H') → g v σ H Q
structure PVG (X : Cx) (e : Expr) (g : TG) (f : GF) : Prop where
  pg : PG X e g
  ok : GOk X.K g f
structure PVGs (X : Cx) (e : List Expr) (g : TGs) (f : GFs) : Prop where
  pg : PGs X e g
  ok : GsOk X.K g f
def nameG (i : Nat) : GF := fun v env S => some (env.set i (some v), S)
theorem pvg_name (i : Nat) {x : Str} (hN : X.N.Nodup) (hi : X.N[i]? = some x := by rfl) (hx : Loc X.env.scope x := by exact Or.inl rfl) (hf : X.fn x = true ∨ X.env.scope.names.lookup x = some .local := by first | exact .inl rfl | exact .inr rfl | assumption) : PVG X (.Name x pos) (gName i) (nameG i) := by
  refine ⟨pg_name hN hi hx hf, ?_⟩
  intro σ H A env S v x env' S' he hs r h Q hq
  cases h
  exact hq _ H A (Pre.refl A) (Keep.refl H) hs (he.set r i)
def nilG : GFs := fun v env S => match v with
  | [] => some (env, S)
  | _ => none
def consG (g : GF) (h : GFs) : GFs := fun v env S => match v with
  | [] => none
  | x :: xs => (g x env S).bind fun y => h xs y.1 y.2
theorem pvg_nil : PVGs X [] gNil nilG := by
  refine ⟨pgs_nil, ?_⟩
  intro σ H A env S v x env' S' he hs r h Q hq
  cases r with
  | nil => cases h; exact ⟨rfl, hq σ H A (Pre.refl A) (Keep.refl H) hs he⟩
  | cons a b => cases h
theorem pvg_cons {g : TG} {gs : TGs} {k : GF} {ks : GFs} (h1 : PVG X e g k) (h2 : PVGs X es gs ks) (hs : (assignEach (e :: es) X.env).map (·.2) = assign e X.env :: (assignEach es X.env).map (·.2) := by rfl) : PVGs X (e :: es) (gCons g gs) (consG k ks) := by
  refine ⟨pgs_cons h1.pg h2.pg hs, ?_⟩
  intro σ H A env S v x env' S' he hs r h Q hq
  cases r with
  | nil => cases h
  | @cons v vs t ts a b =>
    obtain ⟨⟨env1, S1⟩, e1, h⟩ := Option.bind_eq_some_iff.mp h
    refine ⟨v, vs, rfl, h1.ok σ H A env S v t env1 S1 he hs a e1 _ fun σ1 H1 A1 p1 k1 s1 r1 => ?_⟩
    exact h2.ok σ1 H1 A1 env1 S1 vs ts env' S' r1 s1 (b.keep k1 p1) h Q fun σ2 H2 A2 p2 k2 s2 r2 => hq σ2 H2 A2 (p1.trans p2) (k1.trans k2) s2 r2
def tupG (n : Nat) (g : GFs) : GF := fun v env S => match v with
  | .p (.tuple ds) => if ds.length = n then g (ds.map T.p) env S else none
  | .mix ts => if ts.length = n then g ts env S else none
  | _ => none
theorem Rps.rts {K : PySem.W.Frag} {H : Hp} {A : List Addr} : ∀ {vs : List V} {ds : List D}, Rps K H vs ds → Rts K H A vs (ds.map T.p)
  | _, _, .nil => .nil
  | _, _, .cons a b => .cons (.p a) (Rps.rts b)
theorem pvg_tup {k : Nat} {g : TGs} {ks : GFs} {n : Nat} (hc : X.calm = true) (h : PVGs X es g ks) (hn : (assignEach es X.env).length = n := by rfl) (hst : (assignEach es X.env).findIdx? (·.1) = none := by rfl) : PVG X (.Tuple es k pos) (gTup X.K n g) (tupG n ks) := by
  refine ⟨pg_tup hc h.pg hn hst, ?_⟩
  intro σ H A env S v x env' S' he hs r h' Q hq
  unfold tupG at h'
  split at h'
  · split at h'
    · next hl =>
      obtain ⟨a, vs, rfl, s, r⟩ := r.tupOf
      exact ⟨a, vs, rfl, s, by rw [r.length]; exact hl, h.ok σ H A env S vs _ env' S' he hs r.rts h' Q hq⟩
    · cases h'
  · split at h'
    · next hl =>
      cases r with
      | mix s r => exact ⟨_, _, rfl, s, by rw [r.length]; exact hl, h.ok σ H A env S _ _ env' S' he hs r h' Q hq⟩
    · cases h'
  · cases h'
/-- target = value -/
def asgS (f : EF) (g : GF) : SF := fun _ env S => (f env S).bind fun x => (gcV S.length x.1 x.2).bind fun y => (g y.1 env y.2).map fun z => (.nx, z.1, z.2)
theorem pvs_asg {tg : Expr} {g : TG} {k : GF} (he : PV X e te fe) (hg : PVG X tg g k) (hs : swapsWithSole [tg] e pos.line X.env = pure false := by rfl) (hw : swappedStores [tg] e X.env = pure none := by rfl)
    (h1 : (assignEach [tg] X.env).map (·.2) = [assign tg X.env] := by rfl) : PVS X (.Assign [tg] e pos) (tAsg te g) (asgS fe k) := by
  refine ⟨ps_asg he.pe hg.pg hs hw h1, ?_⟩
  intro n σ H A env S o env' S' hn hE hS hf D hD
  obtain ⟨⟨x, S1⟩, e1, hf⟩ := Option.bind_eq_some_iff.mp hf
  obtain ⟨⟨y, S2⟩, e2, hf⟩ := Option.bind_eq_some_iff.mp hf
  obtain ⟨⟨env3, S3⟩, e3, hf⟩ := Option.map_eq_some_iff.mp hf
  cases hf
  refine he.ok σ H A env S x S1 hE hS e1 _ fun u H1 A1 p1 k1 r1 q1 => ?_
  have l1 : S.length ≤ S1.length := by have := p1.len; rw [hS.len, r1.len] at this; exact this
  obtain ⟨A2, p2, r2, q2⟩ := gc_ok r1 l1 q1 e2
  have pA : Pre A A2 := fun i a e => p2 i a (by rw [← hS.len]; exact (List.getElem?_eq_some_iff.mp e).1) (p1 i a e)
  exact hg.ok σ H1 A2 env S2 u y _ _ (hE.keep k1 pA) r2 q2 e3 _ fun σ3 H3 A3 p3 k3 r3 q3 => hD H3 A3 ((pA.trans p3).sameTo n) (k1.trans k3) r3 σ3 q3
/-! a name that held an object of the def's own takes the new one in its place -/
mutual
def noLoc (k : Nat) : T → Bool
  | .p _ => true
  | .ro _ => true
  | .ft _ => true
  | .loc m => decide (m ≠ k)
  | .mix ts => noLocs k ts
def noLocs (k : Nat) : List T → Bool
  | [] => true
  | t :: ts => noLoc k t && noLocs k ts
end
mutual
theorem Rt.without {K : PySem.W.Frag} {H : Hp} {A A' : List Addr} {k : Nat} (q : ∀ (i : Nat) (a : Addr), i ≠ k → A[i]? = some a → A'[i]? = some a) : ∀ {v : V} {t : T}, Rt K H A v t → noLoc k t = true → Rt K H A' v t
  | _, _, .p r, _ => .p r
  | _, _, .ro s r, _ => .ro s r
  | _, _, .ft s d r, _ => .ft s d r
  | _, _, .loc e, h => .loc (q _ _ (by simpa [noLoc] using h) e)
  | _, _, .mix s r, h => .mix s (Rts.without q r (by simpa [noLoc] using h))
theorem Rts.without {K : PySem.W.Frag} {H : Hp} {A A' : List Addr} {k : Nat} (q : ∀ (i : Nat) (a : Addr), i ≠ k → A[i]? = some a → A'[i]? = some a) : ∀ {v : List V} {t : List T}, Rts K H A v t → noLocs k t = true → Rts K H A' v t
  | _, _, .nil, _ => .nil
  | _, _, .cons a b, h => by
    have h' := (Bool.and_eq_true_iff.mp (show (noLoc k _ && noLocs k _) = true from h))
    exact .cons (Rt.without q a h'.1) (Rts.without q b h'.2)
end
/-- no other slot holds that object -/
def lone (i k : Nat) (env : Env) : Bool := (List.range env.length).all fun j => decide (j = i) || match env[j]? with
  | some (some t) => noLoc k t
  | _ => true
def putLoc (n0 i n m : Nat) (env : Env) (S : Sto) : Out × Env × Sto := match env[i]? with
  | some (some (.loc k)) => if m = n ∧ n0 ≤ k ∧ k < n ∧ lone i k env = true then (.nx, env, (S.take n).set k (S.getD n (.lst []))) else (.nx, env.set i (some (.loc m)), S)
  | _ => (.nx, env.set i (some (.loc m)), S)
def putSlot (n0 i n : Nat) (v : T) (env : Env) (S : Sto) : Out × Env × Sto := match v with
  | .loc m => putLoc n0 i n m env S
  | v => (.nx, env.set i (some v), S)
def setS (i : Nat) (f : EF) : SF := fun n0 env S => (f env S).bind fun x => (gcV S.length x.1 x.2).map fun y => putSlot n0 i S.length y.1 env y.2
theorem put_ok {K : PySem.W.Frag} {i n : Nat} {σ : L2.St} {H H1 : Hp} {A A1 : List Addr} {env env' : Env} {S S1 S2 S' : Sto} {x y : T} {u : V} {o : Out} (hn : n ≤ S.length) (hE : RE K H A σ env) (hS : RS K H A S) (p1 : Pre A A1) (k1 : Keep H H1) (r1 : RS K H1 A1 S1) (q1 : Rt K H1 A1 u x)
    (e2 : gcV S.length x S1 = some (y, S2)) (hf : putSlot n i S.length y env S2 = (o, env', S')) (D : Ends) (hD : ∀ H' A', SameTo n A A' → Keep H H' → RS K H' A' S' → EndOk K H' A' o env' D) : D.nx (σ.set i (some u)) H1 := by
  have l1 : S.length ≤ S1.length := by have := p1.len; rw [hS.len, r1.len] at this; exact this
  obtain ⟨A2, p2, r2, q2⟩ := gc_ok r1 l1 q1 e2
  have pA : Pre A A2 := fun j a e => p2 j a (by rw [← hS.len]; exact (List.getElem?_eq_some_iff.mp e).1) (p1 j a e)
  have plain : (Out.nx, env.set i (some y), S2) = (o, env', S') → D.nx (σ.set i (some u)) H1 := fun z => by
    cases z
    exact hD H1 A2 (pA.sameTo n) k1 r2 _ ((hE.keep k1 pA).set q2 i)
  cases y with
  | p d => exact plain hf
  | mix d => exact plain hf
  | ro d => exact plain hf
  | ft d => exact plain hf
  | loc m =>
   replace hf : putLoc n i S.length m env S2 = (o, env', S') := hf
   unfold putLoc at hf
   split at hf
   · next k ek =>
    split at hf
    · next hc =>
      obtain ⟨rfl, hk1, hk2, hl⟩ := hc
      cases hf
      obtain ⟨a, rfl, ea⟩ := q2.locOf
      have hm := (List.getElem?_eq_some_iff.mp ea).1
      have hkA : k < A2.length := by omega
      -- the new numbers
      have sm : ∀ (j : Nat) (b : Addr), j ≠ k → A[j]? = some b → ((A2.take S.length).set k a)[j]? = some b := fun j b hj e => by
        have hjl : j < S.length := by rw [← hS.len]; exact (List.getElem?_eq_some_iff.mp e).1
        rw [List.getElem?_set_ne (Ne.symm hj), List.getElem?_take_of_lt hjl]
        exact pA j b e
      have nd : ((A2.take S.length).set k a).Nodup := by
        have inj : ∀ {i j : Nat} {b : Addr}, A2[i]? = some b → A2[j]? = some b → i = j := fun {i j b} e1 e2 => (List.getElem?_inj (List.getElem?_eq_some_iff.mp e1).1 r2.nd).mp (e1.trans e2.symm)
        rw [List.nodup_iff_pairwise_ne, List.pairwise_iff_getElem]
        intro i j hi hj hij e
        simp only [List.length_set, List.length_take] at hi hj
        rw [List.getElem_set, List.getElem_set] at e
        split at e
        · next z1 =>
          split at e
          · next z2 => omega
          · next z2 =>
            have : A2[j]? = some a := by rw [List.getElem?_eq_getElem (by omega)]; simp only [List.getElem_take] at e; rw [e]
            have := inj this ea
            omega
        · next z1 =>
          split at e
          · next z2 =>
            have : A2[i]? = some a := by rw [List.getElem?_eq_getElem (by omega)]; simp only [List.getElem_take] at e; rw [e]
            have := inj this ea
            omega
          · next z2 =>
            simp only [List.getElem_take] at e
            have := inj (List.getElem?_eq_getElem (by omega : i < A2.length)) ((List.getElem?_eq_getElem (by omega : j < A2.length)).trans (by rw [e]))
            omega
      have hS2 : S.length < S2.length := by rw [← r2.len]; exact hm
      have r3 : RS K H1 ((A2.take S.length).set k a) ((S2.take S.length).set k (S2.getD S.length (.lst []))) := by
        refine ⟨by simp [r2.len], nd, fun j b ob e q => ?_⟩
        have hj := (List.getElem?_eq_some_iff.mp e).1
        simp only [List.length_set, List.length_take] at hj
        by_cases hjk : k = j
        · subst hjk
          rw [List.getElem?_set_self (by rw [List.length_take]; omega)] at e q
          cases e; cases q
          exact r2.ob S.length a _ ea (by simp [List.getD, List.getElem?_eq_getElem hS2])
        · rw [List.getElem?_set_ne hjk, List.getElem?_take_of_lt (by omega)] at e q
          exact r2.ob j b ob e q
      refine hD H1 _ (fun j b hj e => sm j b (by omega) e) k1 r3 _ ?_
      refine ⟨by simp [hE.1], fun j t' e => ?_⟩
      obtain ⟨v', ev, rv⟩ := (hE.keep k1 (Pre.refl A)).2 j t' e
      by_cases hj : i = j
      · subst hj
        rw [ek] at e; cases e
        refine ⟨.ref a, List.getElem?_set_self (List.getElem?_eq_some_iff.mp ev).1, .loc ?_⟩
        rw [List.getElem?_set_self (by rw [List.length_take]; omega)]
      · refine ⟨v', by rw [List.getElem?_set_ne hj]; exact ev, rv.without (k := k) sm ?_⟩
        have hjl := (List.getElem?_eq_some_iff.mp e).1
        have := (List.all_eq_true.mp hl) j (List.mem_range.mpr hjl)
        rw [e] at this
        rcases Bool.or_eq_true_iff.mp this with z | z
        · exact absurd (of_decide_eq_true z).symm hj
        · exact z
    · exact plain hf
   · exact plain hf
theorem set_ok {K : PySem.W.Frag} {i : Nat} (h : EOk K te fe) : SOk K (tAsg te (gName i)) (setS i fe) := by
  intro n σ H A env S o env' S' hn hE hS hf D hD
  obtain ⟨⟨x, S1⟩, e1, hf⟩ := Option.bind_eq_some_iff.mp hf
  obtain ⟨⟨y, S2⟩, e2, hf⟩ := Option.map_eq_some_iff.mp hf
  exact h σ H A env S x S1 hE hS e1 _ fun u H1 A1 p1 k1 r1 q1 => put_ok hn hE hS p1 k1 r1 q1 e2 hf D hD
theorem pvs_set (i : Nat) {x : Str} {pos' : Pos} (hN : X.N.Nodup) (he : PV X e te fe) (hi : X.N[i]? = some x := by rfl) (hx : Loc X.env.scope x := by exact Or.inl rfl) (hs : swapsWith e (some (.Name x pos')) pos.line X.env = pure false := by rfl) (hf : X.fn x = true ∨ X.env.scope.names.lookup x = some .local := by first | exact .inl rfl | exact .inr rfl | assumption) :
    PVS X (.Assign [.Name x pos'] e pos) (tAsg te (gName i)) (setS i fe) := ⟨ps_set hN hi hx he.pe hs hf, set_ok he.ok⟩
/-- name op= e -/
def augS (i : Nat) (g : Op2) (f : EF) : SF := fun n0 env S => match env[i]? with
  | some (some x) => (f env S).bind fun y => (g x y.1 y.2).bind fun z => (gcV S.length z.1 z.2).map fun w => putSlot n0 i S.length w.1 env w.2
  | _ => none
end
end Pv
set_option maxHeartbeats 4000000
/-! Pv5: for, while, defs and their calls. -/
namespace Pv
open PySem PySem.Spec PyProof.Rows L2

section
variable {X : Cx} {a b e c : Expr} {es rest : List Expr} {ta tb te : TE} {fa fb fe : EF} {pos : Pos} {t : TT} {f : TF} {ts us : TS} {s1 s2 : SF} {st : Stmt} {sts : List Stmt}
/-! name op= e -/
def rI2 (g : Int → Int → Int) : R2 := rI0 fun i j => .int (g i j)
theorem pvs_aug (i : Nat) {x : Str} {pos' : Pos} {op : Operator} {r : TIp} {g : Op2} (ho : PIp X op r) (hg : OpOk X.K r g) (hN : X.N.Nodup) (he : PV X e te fe) (hi : X.N[i]? = some x := by rfl) (hx : Loc X.env.scope x := by exact Or.inl rfl) (hf : X.fn x = true ∨ X.env.scope.names.lookup x = some .local := by first | exact .inl rfl | exact .inr rfl | assumption) :
    PVS X (.AugAssign (.Name x pos') op e pos) (tAug i te r) (augS i g fe) := by
  refine ⟨ps_aug hN hi hx he.pe ho hf, ?_⟩
  intro n σ H A env S o env' S' hn hE hS hf D hD
  unfold augS at hf
  split at hf
  · next x0 ex =>
    obtain ⟨v0, ev, r0⟩ := hE.2 i x0 ex
    refine ⟨v0, ev, ?_⟩
    obtain ⟨⟨y, S1⟩, e1, hf⟩ := Option.bind_eq_some_iff.mp hf
    obtain ⟨⟨z, S2⟩, e2, hf⟩ := Option.bind_eq_some_iff.mp hf
    obtain ⟨⟨w, S3⟩, e3, hf⟩ := Option.map_eq_some_iff.mp hf
    refine he.ok σ H A env S y S1 hE hS e1 _ fun u H1 A1 p1 k1 q1 s1' => ?_
    exact hg H1 A1 S1 v0 u x0 y z S2 q1 (r0.keep k1 p1) s1' e2 _ fun u2 H2 A2 p2 k2 q2 s2 => put_ok hn hE hS (p1.trans p2) (k1.trans k2) q2 s2 e3 hf D hD
  · cases hf
/-- x += e of ints, of texts -/
theorem ipAdd_ok {K : PySem.W.Frag} : OpOk K (ipI fun i j => i + j) (iop fun i j => some (.int (i + j))) := iop_ok0 (g := fun i j => .int (i + j)) fun i j H => .int _
theorem ipSub_ok {K : PySem.W.Frag} : OpOk K (ipI fun i j => i - j) subI := iop_ok0 (g := fun i j => .int (i - j)) fun i j H => .int _

/-! ### what a loop walks -/
abbrev Gd := List (Nat × O)
/-- what is walked, stands -/
def GdOk (gd : Gd) (S : Sto) : Prop := ∀ p ∈ gd, S[p.1]? = some p.2
abbrev IF := Env → Sto → Option (List D × Gd × Sto)
structure ItOk (K : PySem.W.Frag) (J : It) (H0 : Hp) (A0 : List Addr) (xs : List D) (gd : Gd) : Prop where
  go : ∀ (i : Nat) (H : Hp) (A : List Addr) (S : Sto) (d : D), Keep H0 H → RS K H A S → (∀ p ∈ gd, A[p.1]? = A0[p.1]?) → GdOk gd S → xs[i]? = some d → J.go i H ∧ ∀ x H', J.yld i H x H' → Keep H H' ∧ RS K H' A S ∧ Rp K H' x d
  stop : ∀ (i : Nat) (H : Hp) (A : List Addr) (S : Sto), Keep H0 H → RS K H A S → (∀ p ∈ gd, A[p.1]? = A0[p.1]?) → GdOk gd S → xs.length ≤ i → J.stop i H
def IOk (K : PySem.W.Frag) (w : TI) (f : IF) : Prop := ∀ (σ : L2.St) (H : Hp) (A : List Addr) (env : Env) (S : Sto) (xs : List D) (gd : Gd) (S' : Sto), RE K H A σ env → RS K H A S → f env S = some (xs, gd, S') →
  ∀ R : It → Hp → Prop, (∀ J H' A', Pre A A' → Keep H H' → RS K H' A' S' → (∀ p ∈ gd, p.1 < A'.length) → ItOk K J H' A' xs gd → R J H') → w σ H R
structure PVI (X : Cx) (tg e : Expr) (w : TI) (f : IF) : Prop where
  pi : PI X tg e w
  ok : IOk X.K w f
open Classical in
noncomputable def loopF (g : GF) (body : SF) (n m : Nat) (gd : Gd) : List D → Env → Sto → Option (Out × Env × Sto)
  | [], env, S => if GdOk gd S then some (.nx, env, S) else none
  | x :: xs, env, S => if GdOk gd S then (g (.p x) env S).bind fun y => (body n y.1 y.2).bind fun z => match z.1 with
      | .rt r => some (.rt r, z.2.1, z.2.2)
      | .bk => some (.nx, forget m z.2.1, z.2.2.take m)
      | _ => loopF g body n m gd xs (forget m z.2.1) (z.2.2.take m) else none
/-- the numbers of what is walked are kept -/
def gdTop (n : Nat) (gd : Gd) : Nat := gd.foldl (fun a p => max a (p.1 + 1)) n
theorem gdTop_ge (gd : Gd) : ∀ n, n ≤ gdTop n gd ∧ ∀ p ∈ gd, p.1 < gdTop n gd := by
  induction gd with
  | nil => exact fun n => ⟨Nat.le_refl _, fun p h => by simp at h⟩
  | cons q gd ih =>
    intro n
    obtain ⟨h1, h2⟩ := ih (max n (q.1 + 1))
    refine ⟨Nat.le_trans (Nat.le_max_left _ _) h1, fun p hp => ?_⟩
    rcases List.mem_cons.mp hp with rfl | hp
    · exact Nat.lt_of_lt_of_le (Nat.lt_of_lt_of_le (Nat.lt_succ_self _) (Nat.le_max_right _ _)) h1
    · exact h2 p hp
theorem gdTop_le {gd : Gd} {k : Nat} (hk : ∀ p ∈ gd, p.1 < k) : ∀ n, n ≤ k → gdTop n gd ≤ k := by
  induction gd with
  | nil => exact fun n h => h
  | cons q gd ih => exact fun n h => ih (fun p hp => hk p (List.mem_cons_of_mem _ hp)) _ (Nat.max_le.mpr ⟨h, hk q (by simp)⟩)
noncomputable def forS (fi : IF) (g : GF) (body : SF) : SF := fun n env S => (fi env S).bind fun it => (loopF g body (gdTop n it.2.1) it.2.2.length it.2.1 it.1 env it.2.2).map fun z => match z.1 with
  | .rt r => (.rt r, z.2.1, z.2.2)
  | o => (o, forget S.length z.2.1, z.2.2.take S.length)
theorem RE.forget {K : PySem.W.Frag} {H : Hp} {A : List Addr} {σ : L2.St} {env : Env} (h : RE K H A σ env) (m : Nat) : RE K H (A.take m) σ (forget m env) := h.low (sameTake m)
theorem sameTakeTo {A A' : List Addr} {n m : Nat} (h : SameTo n A A') (l : n ≤ m) : SameTo n A (A'.take m) := fun i a hi e => by
  rw [List.getElem?_take_of_lt (by omega)]; exact h i a hi e
theorem pvs_for {tg it : Expr} {body : List Stmt} {wi : TI} {g : TG} {tb : TS} {fi : IF} {fg : GF} {sb : SF} (hp : PassesOwn (model X.prog X.w) X.A X.env X.xe) (hc : X.calm = true) (hi : PVI X tg it wi fi) (hg : PVG X tg g fg) (hb : PVB X body tb sb)
    (hs : ∀ x, foldedSetIterable it X.env x = pure x := by intro _; rfl) : PVS X (.For tg it body [] pos) (tFor wi g tb) (forS fi fg sb) := by
  refine ⟨ps_for hp hc hi.pi hg.pg hb.ps hs, ?_⟩
  intro n σ H A env S o env' S' hn hE hS hf D hD
  obtain ⟨⟨xs, gd, S1⟩, e1, hf⟩ := Option.bind_eq_some_iff.mp hf
  refine hi.ok σ H A env S xs gd S1 hE hS e1 _ fun J H1 A1 p1 k1 r1 gl J1 => ?_
  obtain ⟨⟨o9, env9, S9⟩, e2, hf⟩ := Option.map_eq_some_iff.mp hf
  have hlen : S.length ≤ S1.length := by have := p1.len; rw [hS.len, r1.len] at this; exact this
  have hn1 : gdTop n gd ≤ S1.length := gdTop_le (fun p hp => by rw [← r1.len]; exact gl p hp) n (Nat.le_trans hn hlen)
  have hgt := gdTop_ge gd n
  -- the end, as the loop's own
  have hD9 : ∀ H' A', SameTo n A A' → Keep H H' → RS X.K H' A' S9 → (match o9 with
      | .nx => ∀ σ', RE X.K H' A' σ' env9 → D.nx σ' H'
      | .bk => True
      | .ct => True
      | .rt r => ∀ v, Rt X.K H' A' v r → D.rt v H') := fun H' A' s' k' r' => by
    cases o9 with
    | nx =>
      cases hf
      intro σ' he'
      exact hD H' (A'.take S.length) (sameTakeTo s' hn) k' (r'.take _) σ' (he'.forget _)
    | bk => trivial
    | ct => trivial
    | rt r =>
      cases hf
      exact hD H' A' s' k' r'
  have nobk : ∀ (xs : List PyData) (env : Env) (S : Sto), ∀ z, loopF fg sb (gdTop n gd) S1.length gd xs env S = some z → z.1 = .nx ∨ ∃ r, z.1 = .rt r := by
    intro xs
    induction xs with
    | nil =>
      intro env S z h
      simp only [loopF] at h
      split at h
      · cases h; exact .inl rfl
      · cases h
    | cons x xs ih =>
      intro env S z h
      simp only [loopF] at h
      split at h
      · obtain ⟨y, _, h⟩ := Option.bind_eq_some_iff.mp h
        obtain ⟨w, _, h⟩ := Option.bind_eq_some_iff.mp h
        split at h
        · cases h; exact .inr ⟨_, rfl⟩
        · cases h; exact .inl rfl
        · exact ih _ _ z h
      · cases h
  refine ⟨fun i m σ H' => m = xs.length - i ∧ i ≤ xs.length ∧ ∃ A' env S, Keep H1 H' ∧ SameTo (gdTop n gd) A1 A' ∧ RE X.K H' A' σ env ∧ RS X.K H' A' S ∧ loopF fg sb (gdTop n gd) S1.length gd (xs.drop i) env S = some (o9, env9, S9),
    ⟨xs.length, by simp, Nat.zero_le _, A1, env, S1, Keep.refl H1, (Pre.refl A1).sameTo _, hE.keep k1 p1, r1, e2⟩, ?_⟩
  rintro i m σ H2 ⟨rfl, hil, A2, env2, S2, k2, p2, hE2, hS2, hf2⟩
  have gA : ∀ p ∈ gd, A2[p.1]? = A1[p.1]? := fun p hp => by
    have h1 := gl p hp
    rw [p2 p.1 _ (hgt.2 p hp) (List.getElem?_eq_getElem h1), List.getElem?_eq_getElem h1]
  by_cases hlt : i < xs.length
  · have hx : xs[i]? = some xs[i] := List.getElem?_eq_getElem hlt
    rw [List.drop_eq_getElem_cons hlt] at hf2
    simp only [loopF] at hf2
    split at hf2
    · next hgd =>
      obtain ⟨y, e3, hf2⟩ := Option.bind_eq_some_iff.mp hf2
      obtain ⟨z, e4, hf2⟩ := Option.bind_eq_some_iff.mp hf2
      obtain ⟨go, yl⟩ := J1.go i H2 A2 S2 xs[i] k2 hS2 gA hgd hx
      refine .inr ⟨go, fun σ' H' => i + 1 ≤ xs.length ∧ ∃ A' env S, Keep H1 H' ∧ SameTo (gdTop n gd) A1 A' ∧ RE X.K H' A' σ' env ∧ RS X.K H' A' S ∧ loopF fg sb (gdTop n gd) S1.length gd (xs.drop (i + 1)) env S = some (o9, env9, S9), fun σ' H' h' => ⟨xs.length - (i + 1), by omega, rfl, h'⟩, fun x H3 hy => ?_⟩
      obtain ⟨k3, r3, q3⟩ := yl x H3 hy
      obtain ⟨env3, S3⟩ := y
      refine hg.ok σ H3 A2 env2 S2 x _ env3 S3 (hE2.keep k3 (Pre.refl A2)) r3 (.p q3) e3 _ fun σ4 H4 A4 p4 k4 r4 q4 => ?_
      obtain ⟨oz, envz, Sz⟩ := z
      have l4 : gdTop n gd ≤ S3.length := by
        rw [← r4.len]
        exact Nat.le_trans (p2.le (by rw [r1.len]; exact hn1)) p4.len
      refine hb.ok (gdTop n gd) σ4 H4 A4 env3 S3 oz envz Sz l4 q4 r4 e4 _ fun H5 A5 p5 k5 r5 => ?_
      have pA : SameTo (gdTop n gd) A1 A5 := (p2.trans (p4.sameTo _)).trans p5
      have kA : Keep H1 H5 := k2.trans (k3.trans (k4.trans k5))
      have pN : SameTo n A A5 := ((p1.sameTo n).trans (pA.mono hgt.1))
      have again : ∀ (σ' : L2.St), (oz = .nx ∨ oz = .ct) → RE X.K H5 A5 σ' envz → (i + 1 ≤ xs.length ∧ ∃ A' env S, Keep H1 H5 ∧ SameTo (gdTop n gd) A1 A' ∧ RE X.K H5 A' σ' env ∧ RS X.K H5 A' S ∧ loopF fg sb (gdTop n gd) S1.length gd (xs.drop (i + 1)) env S = some (o9, env9, S9)) := fun σ' ho he => by
        refine ⟨hlt, A5.take S1.length, forget S1.length envz, Sz.take S1.length, kA, sameTakeTo pA hn1, he.forget _, r5.take _, ?_⟩
        rcases ho with rfl | rfl <;> exact hf2
      cases oz with
      | nx => exact fun σ' he => again σ' (.inl rfl) he
      | ct => exact fun σ' he => again σ' (.inr rfl) he
      | bk =>
        intro σ' he
        cases hf2
        exact hD9 H5 (A5.take S1.length) (sameTakeTo pN (Nat.le_trans hn hlen)) (k1.trans kA) (r5.take _) σ' (he.forget _)
      | rt r =>
        intro v q
        cases hf2
        exact hD9 H5 A5 pN (k1.trans kA) r5 v q
    · cases hf2
  · have e : i = xs.length := by omega
    subst e
    rw [List.drop_length] at hf2
    simp only [loopF] at hf2
    split at hf2
    · next hgd =>
      cases hf2
      exact .inl ⟨J1.stop _ H2 A2 _ k2 hS2 gA hgd (Nat.le_refl _), hD9 H2 A2 ((p1.sameTo n).trans (p2.mono hgt.1)) (k1.trans k2) hS2 σ hE2⟩
    · cases hf2

/-! ### while: so many turns at most -/
def whileF (f : TF) (body : SF) (n m : Nat) : Nat → Env → Sto → Option (Out × Env × Sto)
  | 0, _, _ => none
  | k + 1, env, S => (f env S).bind fun x => if x.1 = true then (body n env (x.2.take S.length)).bind fun z => match z.1 with
      | .rt r => some (.rt r, z.2.1, z.2.2)
      | .bk => some (.nx, forget m z.2.1, z.2.2.take m)
      | _ => whileF f body n m k (forget m z.2.1) (z.2.2.take m) else some (.nx, env, x.2.take m)
def whileS (N : Nat) (f : TF) (body : SF) : SF := fun n env S => whileF f body n S.length N env S
theorem pvs_while (N : Nat) {body : List Stmt} {tb : TS} {sb : SF} (hp : PassesOwn (model X.prog X.w) X.A X.env X.xe) (hc : PVT X c t f) (hb : PVB X body tb sb) : PVS X (.While c body [] pos) (tWhile t tb) (whileS N f sb) := by
  refine ⟨ps_while hp hc.pt hb.ps, ?_⟩
  intro n σ H A env S o env' S' hn hE hS hf D hD
  refine ⟨fun m σ H' => ∃ A' env S1, Keep H H' ∧ SameTo n A A' ∧ RE X.K H' A' σ env ∧ RS X.K H' A' S1 ∧ S1.length ≤ S.length ∧ whileF f sb n S.length m env S1 = some (o, env', S'), ⟨N, A, env, S, Keep.refl H, (Pre.refl A).sameTo n, hE, hS, Nat.le_refl _, hf⟩, ?_⟩
  rintro m σ H1 ⟨A1, env1, S1, k1, p1, hE1, hS1, l1, h1⟩
  cases m with
  | zero => cases h1
  | succ m =>
    obtain ⟨⟨b, S2⟩, e1, h1⟩ := Option.bind_eq_some_iff.mp h1
    refine hc.ok σ H1 A1 env1 S1 b S2 hE1 hS1 e1 _ fun H2 A2 p2 k2 r2 => ?_
    have q2 : Pre A1 (A2.take S1.length) := by rw [← hS1.len]; exact preTake p2
    have pA2 : SameTo n A (A2.take S1.length) := p1.trans (q2.sameTo n)
    cases b with
    | true =>
      rw [if_pos rfl]
      obtain ⟨⟨oz, envz, Sz⟩, e3, h1⟩ := Option.bind_eq_some_iff.mp h1
      refine ⟨fun σ' H' => ∃ A' env S1, Keep H H' ∧ SameTo n A A' ∧ RE X.K H' A' σ' env ∧ RS X.K H' A' S1 ∧ S1.length ≤ S.length ∧ whileF f sb n S.length m env S1 = some (o, env', S'), fun σ' H' h => ⟨m, Nat.lt_succ_self m, h⟩, ?_⟩
      have l2 : n ≤ (S2.take S1.length).length := by
        rw [← (r2.take _).len]
        exact pA2.le (by rw [hS.len]; exact hn)
      refine hb.ok n σ H2 _ env1 _ oz envz Sz l2 (hE1.keep k2 q2) (r2.take _) e3 _ fun H5 A5 p5 k5 r5 => ?_
      have pA : SameTo n A A5 := pA2.trans p5
      have kA : Keep H H5 := k1.trans (k2.trans k5)
      have again : ∀ (σ' : L2.St), (oz = .nx ∨ oz = .ct) → RE X.K H5 A5 σ' envz → ∃ A' env S1, Keep H H5 ∧ SameTo n A A' ∧ RE X.K H5 A' σ' env ∧ RS X.K H5 A' S1 ∧ S1.length ≤ S.length ∧ whileF f sb n S.length m env S1 = some (o, env', S') := fun σ' ho he => by
        refine ⟨A5.take S.length, forget S.length envz, Sz.take S.length, kA, sameTakeTo pA hn, he.forget _, r5.take _, by rw [List.length_take]; omega, ?_⟩
        rcases ho with rfl | rfl <;> exact h1
      cases oz with
      | nx => exact fun σ' he => again σ' (.inl rfl) he
      | ct => exact fun σ' he => again σ' (.inr rfl) he
      | bk =>
        intro σ' he
        cases h1
        exact hD H5 (A5.take S.length) (sameTakeTo pA hn) kA (r5.take _) σ' (he.forget _)
      | rt r =>
        intro v q
        cases h1
        exact hD H5 A5 pA kA r5 v q
    | false =>
      rw [if_neg Bool.false_ne_true]
      cases h1
      have q3 : Pre A1 (A2.take S.length) := fun i a e => by
        have := (List.getElem?_eq_some_iff.mp e).1
        rw [hS1.len] at this
        rw [List.getElem?_take_of_lt (by omega)]
        exact p2 i a e
      exact hD H2 _ (p1.trans (q3.sameTo n)) (k1.trans k2) (r2.take _) σ (hE1.keep k2 q3)
end

/-! ### defs -/
abbrev DF := List T → Sto → Option (T × Sto)
/-- what a def hands back: nothing that it made stays but what the value holds -/
def defF (n : Nat) (body : SF) : DF := fun ts S => (body S.length (ts.map some ++ List.replicate (n - ts.length) none) S).bind fun z => match z.1 with
  | .rt r => gcV S.length r z.2.2
  | .nx => some (.p .none, z.2.2.take S.length)
  | _ => none
/-- a def's promise -/
def spF (K : PySem.W.Frag) (n : Nat) (g : DF) : Sp := fun vs H Q _ => ∃ (A : List Addr) (ts : List T) (S : Sto) (r : T) (S' : Sto), ts.length = n ∧ Rts K H A vs ts ∧ RS K H A S ∧ g ts S = some (r, S') ∧
  ∀ v H' A', Pre A A' → Keep H H' → RS K H' A' S' → Rt K H' A' v r → Q v H'
section
variable {P : Program} {w : World} {K : PySem.W.Frag} {mg : Str → Option Value} {base : Heap}
theorem start_ok {H : Hp} {A : List Addr} {N : List Str} {vs : List V} {ts : List T} (r : Rts K H A vs ts) : RE K H A (start N vs) (ts.map some ++ List.replicate (N.length - ts.length) none) := by
  have hl := r.length
  refine ⟨by simp [L2.start, hl], fun i t e => ?_⟩
  unfold L2.start
  by_cases hi : i < ts.length
  · rw [List.getElem?_append_left (by simpa using hi), List.getElem?_map] at e
    cases g : ts[i]? with
    | none => rw [g] at e; cases e
    | some t' =>
      rw [g] at e
      have e' : some t' = some t := Option.some.inj e
      cases e'
      obtain ⟨v, h1, h2⟩ := r.get g
      exact ⟨v, by rw [List.getElem?_append_left (by simpa [hl] using hi), List.getElem?_map, h1]; rfl, h2⟩
  · rw [List.getElem?_append_right (by simpa using hi)] at e
    have := List.mem_of_getElem? e
    have := List.eq_of_mem_replicate this
    cases this
/-- THE RULE for a def -/
theorem def_ok {x qual : Str} {st : Stmt} {f : Addr} {fd : FuncData} {N ps : List Str} {k : Nat} {sb : SF} (F : Fun K x qual st f fd) (S : FnScope N ps (defScope st))
    (hbody : ∀ (cdv : Value) (A : Around) (outer : List PySem.Env) (s : Shared) (H : Hp) (E : XK), Room k (A.deeper (envOfC qual (defScope st) s.heap.objs.size f cdv)) →
      ∃ t, PVB (cxOf CX0 P w K mg base N qual (defScope st) f cdv A outer s H E).nox (defBody st) t sb) : FnOk P w K mg base CX0 (k + 1) f fd ps (spF K ps.length (defF N.length sb)) := by
  refine F.ok S (fun vs H Q E ⟨A, ts, S, r, S', hn, hr, _⟩ => hr.length.trans hn) fun cdv A outer s H vs Q E hr h => ?_
  obtain ⟨t, hb⟩ := hbody cdv A outer s H E hr
  obtain ⟨A0, ts, S0, r, S', hn, hv, hs, hg, hq⟩ := h
  refine ⟨t, hb.ps, ?_⟩
  obtain ⟨⟨o, env', S1⟩, e1, hg⟩ := Option.bind_eq_some_iff.mp hg
  refine hb.ok S0.length (start N vs) H A0 _ S0 o env' S1 (Nat.le_refl _) (start_ok hv) hs e1 _ fun H1 A1 p1 k1 r1 => ?_
  have pA : Pre A0 A1 := fun i a e => p1 i a (by rw [← hs.len]; exact (List.getElem?_eq_some_iff.mp e).1) e
  have hl : S0.length ≤ S1.length := by rw [← r1.len]; exact p1.le (by rw [hs.len]; exact Nat.le_refl _)
  cases o with
  | nx =>
    cases hg
    intro σ _
    exact hq .non H1 (A1.take S0.length) (by rw [← hs.len]; exact preTake pA) k1 (r1.take _) (.p .non)
  | rt v =>
    intro u q
    obtain ⟨A2, p2, r2, q2⟩ := gc_ok r1 hl q hg
    exact hq u H1 A2 (fun i a e => p2 i a (by rw [← hs.len]; exact (List.getElem?_eq_some_iff.mp e).1) (pA i a e)) k1 r2 q2
  | bk => cases hg
  | ct => cases hg
end
section
variable {X : Cx} {e : Expr} {es : List Expr} {tA : TA} {fA : AF} {pos : Pos}
def callF (n : Nat) (g : DF) (f : AF) : EF := fun env S => (f env S).bind fun x => if x.1.length = n then g x.1 x.2 else none
theorem call_ok {K : PySem.W.Frag} {n : Nat} {g : DF} {E : XK} (h : AOk K tA fA) : EOk K (tCall (spF K n g) [] E tA) (callF n g fA) := by
  intro σ H A env S v S' he hs hf Q hq
  obtain ⟨⟨x, S1⟩, e1, hf⟩ := Option.bind_eq_some_iff.mp hf
  simp only at hf
  split at hf
  · next hl =>
    refine h σ H A env S x S1 he hs e1 _ fun us H1 A1 p1 k1 s1 r1 => ?_
    show spF K n g (us ++ []) H1 Q E
    rw [List.append_nil]
    exact ⟨A1, x, S1, v, S', hl, r1, s1, hf, fun u H2 A2 p2 k2 s2 r2 => hq u H2 A2 (p1.trans p2) (k1.trans k2) s2 r2⟩
  · cases hf
theorem pv_call {k : Nat} {f : Addr} {fd : FuncData} {ps : List Str} {n : Nat} {g : DF} {x : Str} {p : Pos} (F : FnOk X.prog X.w X.K X.mg X.base CX0 k f fd ps (spF X.K n g)) (hr : Room k X.A) (hg : Gl X x) (hm : X.mg x = some (.ref f)) (hk : PySem.W.keepIn X.K (.ref f) = true) (hb : Binds X.K fd ps [])
    (ha : PVA X (e :: es) tA fA) (hd : (x == ("__debug__" : Str)) = false := by decide) (hs : starEach (e :: es) X.env = (false, eval e X.env) :: starEach es X.env := by rfl) (hn : ((backTo pos (starEach es X.env)).any fun x => x.1) = false := by rfl) :
    PV X (.Call (.Name x p) (e :: es) [] pos) (tCall (spF X.K n g) [] E0 tA) (callF n g fA) := ⟨pe_call F hr hg hm hk hb .nil pass0 ha.pa hd hs hn, call_ok ha.ok⟩
/-! built-in functions and classes by values -/
def CallOk (K : PySem.W.Frag) (r : List V → Hp → VK → Prop) (g : DF) : Prop := ∀ (H : Hp) (A : List Addr) (S : Sto) (vs : List V) (ts : List T) (v : T) (S' : Sto), RS K H A S → Rts K H A vs ts → g ts S = some (v, S') →
  ∀ Q : VK, (∀ u H' A', Pre A A' → Keep H H' → RS K H' A' S' → Rt K H' A' u v → Q u H') → r vs H Q
def argF (g : DF) (f : AF) : EF := fun env S => (f env S).bind fun x => g x.1 x.2
theorem arg_ok {K : PySem.W.Frag} {r : List V → Hp → VK → Prop} {g : DF} (h : CallOk K r g) (ha : AOk K tA fA) : EOk K (tCB r tA) (argF g fA) := by
  intro σ H A env S v S' he hs hf Q hq
  obtain ⟨⟨x, S1⟩, e1, hf⟩ := Option.bind_eq_some_iff.mp hf
  refine ha σ H A env S x S1 he hs e1 _ fun us H1 A1 p1 k1 s1 r1 => ?_
  exact h H1 A1 S1 us x v S' s1 r1 hf Q fun u H2 A2 p2 k2 s2 r2 => hq u H2 A2 (p1.trans p2) (k1.trans k2) s2 r2
theorem pv_callB {id : String} {x : Str} {p : Pos} {r : List V → Hp → VK → Prop} {g : DF} (hc : CallR X (.builtin id) r) (h : CallOk X.K r g) (hg : Gl X x) (hm : X.mg x = none) (hv : bootBuiltins x = some (.builtin id)) (ha : PVA X (e :: es) tA fA) (hn : x ≠ "__name__" := by decide) (hdb : (x == ("__debug__" : Str)) = false := by decide)
    (hs : starEach (e :: es) X.env = (false, eval e X.env) :: starEach es X.env := by rfl) (hn2 : ((backTo pos (starEach es X.env)).any fun x => x.1) = false := by rfl) : PV X (.Call (.Name x p) (e :: es) [] pos) (tCB r tA) (argF g fA) :=
  ⟨pe_callB hc hg hm hv ha.pa hn hdb hs hn2, arg_ok h ha.ok⟩
theorem pv_callTy {T' : String} {x : Str} {p : Pos} {r : List V → Hp → VK → Prop} {g : DF} (hc : CallR X (.type T') r) (h : CallOk X.K r g) (hg : Gl X x) (hm : X.mg x = none) (hv : bootBuiltins x = some (.type T')) (ha : PVA X (e :: es) tA fA) (hn : x ≠ "__name__" := by decide) (hdb : (x == ("__debug__" : Str)) = false := by decide)
    (hs : starEach (e :: es) X.env = (false, eval e X.env) :: starEach es X.env := by rfl) (hn2 : ((backTo pos (starEach es X.env)).any fun x => x.1) = false := by rfl) : PV X (.Call (.Name x p) (e :: es) [] pos) (tCB r tA) (argF g fA) :=
  ⟨pe_callTy hc hg hm hv ha.pa hn hdb hs hn2, arg_ok h ha.ok⟩
end
end Pv
set_option maxHeartbeats 4000000
/-! Pv6: built-in functions and classes, items, slices, methods of lists. -/
namespace Pv
open PySem PySem.Spec PyProof.Rows L2

section
variable {X : Cx} {a b e c : Expr} {es rest : List Expr} {ta tb te : TE} {fa fb fe : EF} {pos : Pos} {t : TT} {f : TF} {tA : TA} {fA : AF}
theorem Rts.one {K : PySem.W.Frag} {H : Hp} {A : List Addr} {vs : List V} {t : T} (r : Rts K H A vs [t]) : ∃ v, vs = [v] ∧ Rt K H A v t := by
  cases r with
  | cons a b => cases b; exact ⟨_, rfl, a⟩
theorem Rts.two {K : PySem.W.Frag} {H : Hp} {A : List Addr} {vs : List V} {t u : T} (r : Rts K H A vs [t, u]) : ∃ v w, vs = [v, w] ∧ Rt K H A v t ∧ Rt K H A w u := by
  cases r with
  | cons a b => obtain ⟨w, rfl, q⟩ := b.one; exact ⟨_, w, rfl, a, q⟩

/-! ### isinstance -/
/-- the name of a value's type -/
def tyName (S : Sto) : T → Option String
  | .p .none => some "NoneType"
  | .p (.bool _) => some "bool"
  | .p (.int _) => some "int"
  | .p (.str _) => some "str"
  | .p (.tuple _) => some "tuple"
  | .mix _ => some "tuple"
  | .ro _ => some "list"
  | .loc n => match S[n]? with
    | some (.lst _) => some "list"
    | some (.dic _) => some "dict"
    | some (.lck _) => some "dict"
    | none => none
  | _ => none
def isiF (c : String) (f : EF) : EF := fun env S => (f env S).bind fun x => (tyName x.2 x.1).bind fun n => (kitB n c).map fun b => (.p (.bool b), x.2)
theorem tyX_tup {K : PySem.W.Frag} {H : Hp} {a : Addr} {vs : List V} (h : SqT K H a vs) : TyX K H (.ref a) (.type "tuple") := by
  rcases h with (h | ⟨o, h⟩) | ⟨o, its, n, e, hc, _⟩
  · exact .base (.tup h)
  · exact .fTuple h
  · exact .kTuple e hc
theorem tyX_ro {K : PySem.W.Frag} {H : Hp} {a : Addr} {vs : List V} (h : RoL K H a vs) : TyX K H (.ref a) (.type "list") := by
  rcases h with ⟨o, h⟩ | ⟨o, its, n, e, hc, _⟩
  · exact .base (.frz h)
  · exact .kList e hc
theorem tyX_of {K : PySem.W.Frag} {H : Hp} {A : List Addr} {S : Sto} {v : V} {t : T} {n : String} (hs : RS K H A S) (r : Rt K H A v t) (h : tyName S t = some n) : TyX K H v (.type n) := by
  cases r with
  | p r =>
    cases r with
    | non => cases h; exact .base .non
    | bl b => cases h; exact .base (.bl b)
    | int i => cases h; exact .base (.int i)
    | str x => cases h; exact .base (.str x)
    | tup s r => cases h; exact tyX_tup s
  | mix s r => cases h; exact tyX_tup s
  | ro s r => cases h; exact tyX_ro s
  | ft s d r => cases h
  | loc e =>
    simp only [tyName] at h
    split at h
    · next xs q => cases h; obtain ⟨vs, h1, _⟩ := hs.ob _ _ _ e q; exact .base (.lst h1)
    · next xs q => cases h; obtain ⟨vs, h1, _⟩ := hs.ob _ _ _ e q; exact .base (.dK h1)
    · next xs q => cases h; obtain ⟨o, vs, h1, _⟩ := hs.ob _ _ _ e q; exact .fDict h1
    · cases h
theorem pv_isi {cn : String} {x : Str} {p pc : Pos} (ha : PV X e te fe) (hg : Gl X "isinstance") (hm : X.mg "isinstance" = none) (hgc : Gl X x) (hmc : X.mg x = none) (hv : bootBuiltins x = some (.type cn)) (hn : x ≠ "__name__" := by decide) (hd : (x == ("__debug__" : Str)) = false := by decide)
    (hs : starEach [e, .Name x pc] X.env = (false, eval e X.env) :: starEach [.Name x pc] X.env := by rfl) (hs2 : starEach [.Name x pc] X.env = (false, eval (.Name x pc) X.env) :: starEach [] X.env := by rfl) (hn2 : ((backTo pos (starEach [.Name x pc] X.env)).any fun x => x.1) = false := by rfl) :
    PV X (.Call (.Name "isinstance" p) [e, .Name x pc] [] pos) (tCB (rIsi X.K) (tCons te (tCons (tC (.ty cn)) tNil))) (isiF cn fe) := by
  refine ⟨pe_callB call_isi hg hm (by decide +kernel) (pa_cons ha.pe (pa_cons (pe_bltn (v := .ty cn) hgc hmc hv rfl hn hd) pa_nil hs2) hs) (by decide) (by decide) hs hn2, ?_⟩
  intro σ H A env S v S' hE hS hf Q hq
  obtain ⟨⟨y, S1⟩, e1, hf⟩ := Option.bind_eq_some_iff.mp hf
  obtain ⟨n, e2, hf⟩ := Option.bind_eq_some_iff.mp hf
  obtain ⟨r, e3, hf⟩ := Option.map_eq_some_iff.mp hf
  cases hf
  refine ha.ok σ H A env S y _ hE hS e1 _ fun u H1 A1 p1 k1 s1 r1 => ?_
  exact ⟨u, .ty cn, .type n, .type cn, r, rfl, .ty cn, tyX_of s1 r1 e2, kit_ty e3, hq _ H1 A1 p1 k1 s1 (.p (.bl r))⟩

/-! ### len, int, abs, sum, max, min, all, any -/
/-- the items of a list or a tuple -/
def seqOf (S : Sto) : T → Option (List D)
  | .p (.tuple ds) => some ds
  | .loc n => match S[n]? with
    | some (.lst xs) => some xs
    | _ => none
  | .ro xs => some xs
  | _ => none
theorem seqOf_ok {K : PySem.W.Frag} {H : Hp} {A : List Addr} {S : Sto} {v : V} {t : T} {ds : List D} (hs : RS K H A S) (r : Rt K H A v t) (h : seqOf S t = some ds) : ∃ a vs, v = .ref a ∧ (SqL K H a vs ∨ SqT K H a vs) ∧ Rps K H vs ds := by
  cases r with
  | p r =>
    cases r with
    | tup s r => cases h; exact ⟨_, _, rfl, .inr s, r⟩
    | _ => cases h
  | mix s r => cases h
  | ro s r => cases h; exact ⟨_, _, rfl, .inl s.sql, r⟩
  | ft s d r => cases h
  | loc e =>
    simp only [seqOf] at h
    split at h
    · next xs q =>
      cases h
      obtain ⟨vs, h1, r1⟩ := hs.lstOf e q
      exact ⟨_, _, rfl, .inl (SqL.of h1), r1⟩
    · cases h
def lenT : DF := fun ts S => match ts with
  | [t] => match t with
    | .p (.str x) => if x.length ≤ sizeLine then some (.p (.int (x.length : Nat)), S) else none
    | .mix us => some (.p (.int (us.length : Nat)), S)
    | .loc n => match S[n]? with
      | some (.lst xs) => some (.p (.int (xs.length : Nat)), S)
      | some (.dic xs) => some (.p (.int (xs.length : Nat)), S)
      | _ => none
    | t => (seqOf S t).map fun ds => (.p (.int (ds.length : Nat)), S)
  | _ => none
def rLen (X : Cx) : List V → Hp → VK → Prop := fun xs H Q => (∃ p ys, xs = [V.ref p] ∧ (SqL X.K H p ys ∨ SqT X.K H p ys) ∧ Q (V.int (ys.length : Nat)) H) ∨ ((∃ x, xs = [.str x] ∧ x.length ≤ sizeLine ∧ Q (.int (x.length : Nat)) H) ∨ ∃ a kvs, xs = [.ref a] ∧ H a = some (.dK kvs) ∧ Q (.int (kvs.length : Nat)) H)

theorem call_lenA : CallR X (.builtin "len") (rLen X) := call_len_seq.or (call_len_str.or call_lenD)
theorem len_ok : CallOk X.K (rLen X) lenT := by
  intro H A S vs ts v S' hs rs h Q hq
  have fin : ∀ {n : Nat}, (T.p (PyData.int (n : Nat)), S) = (v, S') → Q (.int (n : Nat)) H := fun {n} e => by
    cases e; exact hq _ H A (Pre.refl A) (Keep.refl H) hs (.p (.int _))
  unfold lenT at h
  split at h
  · next t =>
    obtain ⟨x, rfl, r⟩ := rs.one
    split at h
    · next z =>
      split at h
      · next hz =>
        cases r with
        | p r => cases r; exact .inr (.inl ⟨_, rfl, hz, fin (Option.some.inj h)⟩)
      · cases h
    · next us =>
      cases r with
      | mix s r => exact .inl ⟨_, _, rfl, .inr s, by rw [r.length]; exact fin (Option.some.inj h)⟩
    · next n =>
      obtain ⟨a, rfl, e⟩ := r.locOf
      split at h
      · next xs q =>
        obtain ⟨ws, h1, r1⟩ := hs.lstOf e q
        exact .inl ⟨_, _, rfl, .inl (SqL.of h1), by rw [r1.length]; exact fin (Option.some.inj h)⟩
      · next xs q =>
        obtain ⟨kv, h1, r1⟩ := hs.ob _ _ _ e q
        exact .inr (.inr ⟨_, _, rfl, h1, by rw [Paired.length r1]; exact fin (Option.some.inj h)⟩)
      · cases h
    · obtain ⟨ds, e, h⟩ := Option.map_eq_some_iff.mp h
      obtain ⟨a, ws, rfl, hsq, r1⟩ := seqOf_ok hs r e
      exact .inl ⟨_, _, rfl, hsq, by rw [r1.length]; exact fin h⟩
  · cases h
theorem pv_len {p : Pos} (hg : Gl X "len") (hm : X.mg "len" = none) (ha : PV X e te fe) (hs : starEach [e] X.env = (false, eval e X.env) :: starEach [] X.env := by rfl) (hn : ((backTo pos (starEach [] X.env)).any fun x => x.1) = false := by rfl) :
    PV X (.Call (.Name "len" p) [e] [] pos) (tCB (rLen X) (tCons te tNil)) (argF lenT (consF fe nilF)) := pv_callB call_lenA len_ok hg hm (by decide +kernel) (pva_cons ha pva_nil hs) (by decide) (by decide) hs hn
/-- int(x) of an int or a bool -/
def intT : DF := fun ts S => match ts with
  | [.p (.int i)] => some (.p (.int i), S)
  | [.p (.bool b)] => some (.p (.int (if b then 1 else 0)), S)
  | _ => none
theorem int_ok {K : PySem.W.Frag} : CallOk K (fun xs H Q => (∃ i, xs = [.int i] ∧ Q (.int i) H) ∨ ∃ k, xs = [.bl k] ∧ Q (.int (if k then 1 else 0)) H) intT := by
  intro H A S vs ts v S' hs rs h Q hq
  unfold intT at h
  split at h
  · obtain ⟨x, rfl, r⟩ := rs.one
    cases r with
    | p r => cases r; cases h; exact .inl ⟨_, rfl, hq _ H A (Pre.refl A) (Keep.refl H) hs (.p (.int _))⟩
  · obtain ⟨x, rfl, r⟩ := rs.one
    cases r with
    | p r => cases r; cases h; exact .inr ⟨_, rfl, hq _ H A (Pre.refl A) (Keep.refl H) hs (.p (.int _))⟩
  · cases h

def absT : DF := fun ts S => match ts with
  | [.p (.int i)] => some (.p (.int (if i < 0 then -i else i)), S)
  | _ => none
theorem abs_ok {K : PySem.W.Frag} : CallOk K (fun xs H Q => ∃ i, xs = [.int i] ∧ Q (.int (if i < 0 then -i else i)) H) absT := by
  intro H A S vs ts v S' hs rs h Q hq
  unfold absT at h
  split at h
  · obtain ⟨x, rfl, r⟩ := rs.one
    cases r with
    | p r => cases r; cases h; exact ⟨_, rfl, hq _ H A (Pre.refl A) (Keep.refl H) hs (.p (.int _))⟩
  · cases h
/-- max(i, j), min(i, j) -/
def max2T : DF := fun ts S => match ts with
  | [.p (.int i), .p (.int j)] => some (.p (.int (if j > i then j else i)), S)
  | _ => none
def min2T : DF := fun ts S => match ts with
  | [.p (.int i), .p (.int j)] => some (.p (.int (if j < i then j else i)), S)
  | _ => none
theorem max2_ok {K : PySem.W.Frag} : CallOk K (fun xs H Q => ∃ i j, xs = [.int i, .int j] ∧ Q (.int (if j > i then j else i)) H) max2T := by
  intro H A S vs ts v S' hs rs h Q hq
  unfold max2T at h
  split at h
  · obtain ⟨x, y, rfl, r, q⟩ := rs.two
    cases r with
    | p r => cases r; cases q with
      | p q => cases q; cases h; exact ⟨_, _, rfl, hq _ H A (Pre.refl A) (Keep.refl H) hs (.p (.int _))⟩
  · cases h
theorem min2_ok {K : PySem.W.Frag} : CallOk K (fun xs H Q => ∃ i j, xs = [.int i, .int j] ∧ Q (.int (if j < i then j else i)) H) min2T := by
  intro H A S vs ts v S' hs rs h Q hq
  unfold min2T at h
  split at h
  · obtain ⟨x, y, rfl, r, q⟩ := rs.two
    cases r with
    | p r => cases r; cases q with
      | p q => cases q; cases h; exact ⟨_, _, rfl, hq _ H A (Pre.refl A) (Keep.refl H) hs (.p (.int _))⟩
  · cases h
/-- lists of ints, of bools -/
def intsOf : List D → Option (List Int)
  | [] => some []
  | .int i :: ds => (intsOf ds).map fun ns => i :: ns
  | _ :: _ => none
def boolsOf : List D → Option (List Bool)
  | [] => some []
  | .bool i :: ds => (boolsOf ds).map fun ns => i :: ns
  | _ :: _ => none
theorem intsOf_map : ∀ ns : List Int, intsOf (ns.map PyData.int) = some ns
  | [] => rfl
  | n :: ns => by show (intsOf (ns.map PyData.int)).map _ = _; rw [intsOf_map ns]; rfl
theorem boolsOf_map : ∀ ns : List Bool, boolsOf (ns.map PyData.bool) = some ns
  | [] => rfl
  | n :: ns => by show (boolsOf (ns.map PyData.bool)).map _ = _; rw [boolsOf_map ns]; rfl
theorem intsOf_eq : ∀ {ds : List D} {ns : List Int}, intsOf ds = some ns → ds = ns.map PyData.int
  | [], _, h => by cases h; rfl
  | .int i :: ds, _, h => by
    obtain ⟨ms, e, h⟩ := Option.map_eq_some_iff.mp h
    subst h
    rw [intsOf_eq e]; rfl
  | .none :: _, _, h => nomatch h
  | .bool _ :: _, _, h => nomatch h
  | .str _ :: _, _, h => nomatch h
  | .list _ :: _, _, h => nomatch h
  | .tuple _ :: _, _, h => nomatch h
  | .dict _ :: _, _, h => nomatch h
theorem boolsOf_eq : ∀ {ds : List D} {ns : List Bool}, boolsOf ds = some ns → ds = ns.map PyData.bool
  | [], _, h => by cases h; rfl
  | .bool i :: ds, _, h => by
    obtain ⟨ms, e, h⟩ := Option.map_eq_some_iff.mp h
    subst h
    rw [boolsOf_eq e]; rfl
  | .none :: _, _, h => nomatch h
  | .int _ :: _, _, h => nomatch h
  | .str _ :: _, _, h => nomatch h
  | .list _ :: _, _, h => nomatch h
  | .tuple _ :: _, _, h => nomatch h
  | .dict _ :: _, _, h => nomatch h
/-- the items of a list -/
def lstOf (S : Sto) : T → Option (List D)
  | .loc n => match S[n]? with
    | some (.lst xs) => some xs
    | _ => none
  | .ro xs => some xs
  | _ => none
theorem lstOf_ok {K : PySem.W.Frag} {H : Hp} {A : List Addr} {S : Sto} {v : V} {t : T} {ds : List D} (hs : RS K H A S) (r : Rt K H A v t) (h : lstOf S t = some ds) : ∃ a vs, v = .ref a ∧ SqL K H a vs ∧ Rps K H vs ds := by
  cases r with
  | p r => cases h
  | mix s r => cases h
  | ro s r => cases h; exact ⟨_, _, rfl, s.sql, r⟩
  | ft s d r => cases h
  | loc e =>
    simp only [lstOf] at h
    split at h
    · next xs q =>
      cases h
      obtain ⟨vs, h1, r1⟩ := hs.lstOf e q
      exact ⟨_, _, rfl, SqL.of h1, r1⟩
    · cases h
def allT (any : Bool) : DF := fun ts S => match ts with
  | [t] => ((lstOf S t).bind boolsOf).map fun bs => (.p (.bool (if any then bs.any id else bs.all id)), S)
  | _ => none
theorem all_ok {K : PySem.W.Frag} : CallOk K (rAll K) (allT false) := by
  intro H A S vs ts v S' hs rs h Q hq
  unfold allT at h
  split at h
  · obtain ⟨x, rfl, r⟩ := rs.one
    obtain ⟨bs, e, h⟩ := Option.map_eq_some_iff.mp h
    obtain ⟨ds, e1, e2⟩ := Option.bind_eq_some_iff.mp e
    cases h
    obtain ⟨a, ws, rfl, hl, r1⟩ := lstOf_ok hs r e1
    rw [boolsOf_eq e2] at r1
    rw [r1.of_bools] at hl
    exact ⟨a, bs, rfl, hl, hq _ H A (Pre.refl A) (Keep.refl H) hs (.p (.bl _))⟩
  · cases h
theorem any_ok {K : PySem.W.Frag} : CallOk K (rAny K) (allT true) := by
  intro H A S vs ts v S' hs rs h Q hq
  unfold allT at h
  split at h
  · obtain ⟨x, rfl, r⟩ := rs.one
    obtain ⟨bs, e, h⟩ := Option.map_eq_some_iff.mp h
    obtain ⟨ds, e1, e2⟩ := Option.bind_eq_some_iff.mp e
    cases h
    obtain ⟨a, ws, rfl, hl, r1⟩ := lstOf_ok hs r e1
    rw [boolsOf_eq e2] at r1
    rw [r1.of_bools] at hl
    exact ⟨a, bs, rfl, hl, hq _ H A (Pre.refl A) (Keep.refl H) hs (.p (.bl _))⟩
  · cases h
def sumT : DF := fun ts S => match ts with
  | [t] => ((lstOf S t).bind intsOf).map fun ns => (.p (.int ns.sum), S)
  | _ => none
theorem sum_ok {K : PySem.W.Frag} : CallOk K (rSum K) sumT := by
  intro H A S vs ts v S' hs rs h Q hq
  unfold sumT at h
  split at h
  · obtain ⟨x, rfl, r⟩ := rs.one
    obtain ⟨bs, e, h⟩ := Option.map_eq_some_iff.mp h
    obtain ⟨ds, e1, e2⟩ := Option.bind_eq_some_iff.mp e
    cases h
    obtain ⟨a, ws, rfl, hl, r1⟩ := lstOf_ok hs r e1
    rw [intsOf_eq e2] at r1
    rw [r1.of_ints] at hl
    exact ⟨a, bs, rfl, hl, hq _ H A (Pre.refl A) (Keep.refl H) hs (.p (.int _))⟩
  · cases h
/-- the greatest, the least of a list of ints -/
def maxI : List Int → Int
  | [] => 0
  | n :: ns => ns.foldl max n
def minI : List Int → Int
  | [] => 0
  | n :: ns => ns.foldl min n
theorem foldl_max : ∀ (ns : List Int) (n : Int), (ns.foldl max n = n ∨ ns.foldl max n ∈ ns) ∧ n ≤ ns.foldl max n ∧ ∀ m ∈ ns, m ≤ ns.foldl max n
  | [], n => ⟨.inl rfl, Int.le_refl _, fun m h => by simp at h⟩
  | k :: ns, n => by
    obtain ⟨h1, h2, h3⟩ := foldl_max ns (max n k)
    show (ns.foldl max (max n k) = n ∨ ns.foldl max (max n k) ∈ k :: ns) ∧ n ≤ ns.foldl max (max n k) ∧ ∀ m ∈ k :: ns, m ≤ ns.foldl max (max n k)
    refine ⟨?_, by omega, fun m hm => ?_⟩
    · rcases h1 with h1 | h1
      · by_cases hk : n ≤ k
        · exact .inr (by rw [h1, Int.max_eq_right hk]; exact List.mem_cons_self)
        · exact .inl (by rw [h1]; omega)
      · exact .inr (List.mem_cons_of_mem _ h1)
    · rcases List.mem_cons.mp hm with rfl | hm
      · omega
      · exact h3 m hm
theorem foldl_min : ∀ (ns : List Int) (n : Int), (ns.foldl min n = n ∨ ns.foldl min n ∈ ns) ∧ ns.foldl min n ≤ n ∧ ∀ m ∈ ns, ns.foldl min n ≤ m
  | [], n => ⟨.inl rfl, Int.le_refl _, fun m h => by simp at h⟩
  | k :: ns, n => by
    obtain ⟨h1, h2, h3⟩ := foldl_min ns (min n k)
    show (ns.foldl min (min n k) = n ∨ ns.foldl min (min n k) ∈ k :: ns) ∧ ns.foldl min (min n k) ≤ n ∧ ∀ m ∈ k :: ns, ns.foldl min (min n k) ≤ m
    refine ⟨?_, by omega, fun m hm => ?_⟩
    · rcases h1 with h1 | h1
      · by_cases hk : k ≤ n
        · exact .inr (by rw [h1, Int.min_eq_right hk]; exact List.mem_cons_self)
        · exact .inl (by rw [h1]; omega)
      · exact .inr (List.mem_cons_of_mem _ h1)
    · rcases List.mem_cons.mp hm with rfl | hm
      · omega
      · exact h3 m hm
theorem maxI_spec {ns : List Int} (h : ns ≠ []) : maxI ns ∈ ns ∧ ∀ m ∈ ns, m ≤ maxI ns := by
  cases ns with
  | nil => exact absurd rfl h
  | cons n ns =>
    obtain ⟨h1, h2, h3⟩ := foldl_max ns n
    refine ⟨?_, fun m hm => ?_⟩
    · rcases h1 with h1 | h1
      · show ns.foldl max n ∈ n :: ns; rw [h1]; exact List.mem_cons_self
      · exact List.mem_cons_of_mem _ h1
    · rcases List.mem_cons.mp hm with rfl | hm
      · exact h2
      · exact h3 m hm
theorem minI_spec {ns : List Int} (h : ns ≠ []) : minI ns ∈ ns ∧ ∀ m ∈ ns, minI ns ≤ m := by
  cases ns with
  | nil => exact absurd rfl h
  | cons n ns =>
    obtain ⟨h1, h2, h3⟩ := foldl_min ns n
    refine ⟨?_, fun m hm => ?_⟩
    · rcases h1 with h1 | h1
      · show ns.foldl min n ∈ n :: ns; rw [h1]; exact List.mem_cons_self
      · exact List.mem_cons_of_mem _ h1
    · rcases List.mem_cons.mp hm with rfl | hm
      · exact h2
      · exact h3 m hm
def mmT (g : List Int → Int) : DF := fun ts S => match ts with
  | [t] => ((lstOf S t).bind intsOf).bind fun ns => if ns ≠ [] then some (.p (.int (g ns)), S) else none
  | _ => none
theorem max_ok {K : PySem.W.Frag} : CallOk K (rMax K) (mmT maxI) := by
  intro H A S vs ts v S' hs rs h Q hq
  unfold mmT at h
  split at h
  · obtain ⟨x, rfl, r⟩ := rs.one
    obtain ⟨bs, e, h⟩ := Option.bind_eq_some_iff.mp h
    obtain ⟨ds, e1, e2⟩ := Option.bind_eq_some_iff.mp e
    split at h
    · next hn =>
      cases h
      obtain ⟨a, ws, rfl, hl, r1⟩ := lstOf_ok hs r e1
      rw [intsOf_eq e2] at r1
      rw [r1.of_ints] at hl
      refine ⟨a, bs, rfl, hl, List.length_pos_iff.mpr hn, fun m hm hle => ?_⟩
      obtain ⟨q1, q2⟩ := maxI_spec hn
      have : m = maxI bs := Int.le_antisymm (q2 m hm) (hle _ q1)
      subst this
      exact hq _ H A (Pre.refl A) (Keep.refl H) hs (.p (.int _))
    · cases h
  · cases h
theorem min_ok {K : PySem.W.Frag} : CallOk K (rMin K) (mmT minI) := by
  intro H A S vs ts v S' hs rs h Q hq
  unfold mmT at h
  split at h
  · obtain ⟨x, rfl, r⟩ := rs.one
    obtain ⟨bs, e, h⟩ := Option.bind_eq_some_iff.mp h
    obtain ⟨ds, e1, e2⟩ := Option.bind_eq_some_iff.mp e
    split at h
    · next hn =>
      cases h
      obtain ⟨a, ws, rfl, hl, r1⟩ := lstOf_ok hs r e1
      rw [intsOf_eq e2] at r1
      rw [r1.of_ints] at hl
      refine ⟨a, bs, rfl, hl, List.length_pos_iff.mpr hn, fun m hm hle => ?_⟩
      obtain ⟨q1, q2⟩ := minI_spec hn
      have : m = minI bs := Int.le_antisymm (hle _ q1) (q2 m hm)
      subst this
      exact hq _ H A (Pre.refl A) (Keep.refl H) hs (.p (.int _))
    · cases h
  · cases h

/-! ### tuple(x), list(x) -/
def tupleT : DF := fun ts S => match ts with
  | [t] => (seqOf S t).map fun ds => (.p (.tuple ds), S)
  | _ => none
theorem tuple_ok {K : PySem.W.Frag} : CallOk K (fun xs H Q => ∃ p ys, xs = [.ref p] ∧ ((SqL K H p ys ∧ ∀ (l : Addr), H l = none → Q (V.ref l) (upd H l (HO.tup ys))) ∨ SqT K H p ys ∧ Q (V.ref p) H)) tupleT := by
  intro H A S vs ts v S' hs rs h Q hq
  unfold tupleT at h
  split at h
  · obtain ⟨x, rfl, r⟩ := rs.one
    obtain ⟨ds, e, h⟩ := Option.map_eq_some_iff.mp h
    cases h
    obtain ⟨a, ws, rfl, hl, r1⟩ := seqOf_ok hs r e
    rcases hl with hl | hl
    · exact ⟨a, ws, rfl, .inl ⟨hl, fun l hn => hq _ _ A (Pre.refl A) (Keep.new hn) (hs.new hn) (.p (.tup (SqT.of upd_same) (r1.keep (Keep.new hn))))⟩⟩
    · exact ⟨a, ws, rfl, .inr ⟨hl, hq _ H A (Pre.refl A) (Keep.refl H) hs (.p (.tup hl r1))⟩⟩
  · cases h
def listT : DF := fun ts S => match ts with
  | [t] => (seqOf S t).map fun ds => (.loc S.length, S ++ [.lst ds])
  | _ => none
theorem list_ok {K : PySem.W.Frag} : CallOk K (fun xs H Q => ∃ p ys, xs = [V.ref p] ∧ (SqL K H p ys ∨ SqT K H p ys) ∧ ∀ (l : Addr), H l = none → Q (V.ref l) (upd H l (HO.lst ys))) listT := by
  intro H A S vs ts v S' hs rs h Q hq
  unfold listT at h
  split at h
  · obtain ⟨x, rfl, r⟩ := rs.one
    obtain ⟨ds, e, h⟩ := Option.map_eq_some_iff.mp h
    cases h
    obtain ⟨a, ws, rfl, hl, r1⟩ := seqOf_ok hs r e
    exact ⟨a, ws, rfl, hl, fun l hn => hq _ _ _ (Pre.app A [l]) (Keep.new hn) (hs.newL hn r1) hs.numL⟩
  · cases h

/-! ### items, slices -/
def ixT : Op2 := fun x y S => match y with
  | .p (.int i) => match x with
    | .p (.str z) => if z.length ≤ sizeLine then (atI z.cps.toList i).map fun c => (.p (.str ⟨#[c]⟩), S) else none
    | .mix ts => (atI ts i).map fun t => (t, S)
    | x => ((seqOf S x).bind fun ds => atI ds i).map fun d => (.p d, S)
  | _ => none
theorem atI_rel {K : PySem.W.Frag} {H : Hp} {vs : List V} {ds : List D} {i : Int} {d : D} (r : Rps K H vs ds) (h : atI ds i = some d) : ∃ v, atI vs i = some v ∧ Rp K H v d := by
  unfold atI at h ⊢
  obtain ⟨j, e1, e2⟩ := Option.bind_eq_some_iff.mp h
  obtain ⟨v, e3, q⟩ := r.get e2
  exact ⟨v, by rw [r.length, e1]; exact e3, q⟩
theorem atI_relT {K : PySem.W.Frag} {H : Hp} {A : List Addr} {vs : List V} {ds : List T} {i : Int} {d : T} (r : Rts K H A vs ds) (h : atI ds i = some d) : ∃ v, atI vs i = some v ∧ Rt K H A v d := by
  unfold atI at h ⊢
  obtain ⟨j, e1, e2⟩ := Option.bind_eq_some_iff.mp h
  obtain ⟨v, e3, q⟩ := r.get e2
  exact ⟨v, by rw [r.length, e1]; exact e3, q⟩
theorem ix_ok {K : PySem.W.Frag} : OpOk K (rIx K) ixT := by
  intro H A S x y a b v S' hs rx ry h Q hq
  unfold ixT at h
  split at h
  · cases ry with
    | p ry =>
      cases ry
      split at h
      · split at h
        · next hz =>
          obtain ⟨c, e, h⟩ := Option.map_eq_some_iff.mp h
          cases h
          cases rx with
          | p rx => cases rx; exact .inr (.inr ⟨_, _, c, rfl, rfl, hz, e, hq _ H A (Pre.refl A) (Keep.refl H) hs (.p (.str _))⟩)
        · cases h
      · obtain ⟨t, e, h⟩ := Option.map_eq_some_iff.mp h
        cases h
        cases rx with
        | mix s r =>
          obtain ⟨u, e2, q⟩ := atI_relT r e
          exact .inr (.inl ⟨_, _, _, u, rfl, rfl, s, e2, hq _ H A (Pre.refl A) (Keep.refl H) hs q⟩)
      · obtain ⟨d, e, h⟩ := Option.map_eq_some_iff.mp h
        cases h
        obtain ⟨ds, e1, e2⟩ := Option.bind_eq_some_iff.mp e
        obtain ⟨p, ws, rfl, hl, r1⟩ := seqOf_ok hs rx e1
        obtain ⟨u, e3, q⟩ := atI_rel r1 e2
        rcases hl with hl | hl
        · exact .inl ⟨_, _, _, u, rfl, rfl, hl, e3, hq _ H A (Pre.refl A) (Keep.refl H) hs (.p q)⟩
        · exact .inr (.inl ⟨_, _, _, u, rfl, rfl, hl, e3, hq _ H A (Pre.refl A) (Keep.refl H) hs (.p q)⟩)
  · cases h
theorem pv_ixs (ha : PV X a ta fa) (hb : PV X b tb fb) (hs : PlainIx b) : PV X (.Subscript a b pos) (tOp (rIx X.K) ta tb) (binF ixT fa fb) := pv_ix ix_seq ix_ok ha hb hs
end
end Pv
set_option maxHeartbeats 4000000
/-! Pv7: slices, methods of lists, what is walked, comprehensions. -/
namespace Pv
open PySem PySem.Spec PyProof.Rows L2

section
variable {X : Cx} {a b e c tg it elt : Expr} {es rest : List Expr} {ta tb te : TE} {fa fb fe : EF} {pos p2 : Pos} {t : TT} {f : TF} {tA : TA} {fA : AF} {lo hi : Option Expr} {tl th : TO}
/-! ### slices -/
abbrev OF := Env → Sto → Option (Option Int × Sto)
structure PVO (X : Cx) (e : Option Expr) (t : TO) (f : OF) : Prop where
  po : PO X e t
  ok : ∀ (σ : L2.St) (H : Hp) (A : List Addr) (env : Env) (S : Sto) (r : Option Int) (S' : Sto), RE X.K H A σ env → RS X.K H A S → f env S = some (r, S') → ∀ Q : Option Int → Hp → Prop, (∀ H' A', Pre A A' → Keep H H' → RS X.K H' A' S' → Q r H') → t σ H Q
def noO : OF := fun _ S => some (none, S)
def someO (f : EF) : OF := fun env S => (f env S).bind fun x => match x.1 with
  | .p (.int i) => some (some i, x.2)
  | _ => none
theorem pvo_none : PVO X none tNoPart noO := ⟨po_none, fun σ H A env S r S' hE hS h Q hq => by cases h; exact hq H A (Pre.refl A) (Keep.refl H) hS⟩
theorem pvo_some (h : PV X e te fe) : PVO X (some e) (tPart te) (someO fe) := by
  refine ⟨po_some h.pe, fun σ H A env S r S' hE hS hf Q hq => ?_⟩
  obtain ⟨⟨x, S1⟩, e1, hf⟩ := Option.bind_eq_some_iff.mp hf
  refine h.ok σ H A env S x S1 hE hS e1 _ fun u H1 A1 p1 k1 s1 r1 => ?_
  simp only at hf
  split at hf
  · cases r1 with
    | p r1 => cases r1; cases hf; exact ⟨_, rfl, hq H1 A1 p1 k1 s1⟩
  · cases hf
/-- the items of xs[lo:hi] -/
def cutL {α : Type} (xs : List α) (lo hi : Option Int) : List α := (xs.drop (HT.sIx xs.length 0 lo)).take (HT.sIx xs.length xs.length hi - HT.sIx xs.length 0 lo)
def slT : T → Option Int → Option Int → Sto → Option (T × Sto) := fun x lo hi S => match x with
  | .p (.str z) => if z.length ≤ sizeLine then some (.p (.str (cutS z lo hi)), S) else none
  | .p (.tuple ds) => some (.p (.tuple (cutL ds lo hi)), S)
  | x => (lstOf S x).map fun ds => (.loc S.length, S ++ [.lst (cutL ds lo hi)])
def sliceF (fe : EF) (fl fh : OF) : EF := fun env S => (fe env S).bind fun x => (fl env x.2).bind fun l => (fh env l.2).bind fun h => slT x.1 l.1 h.1 h.2
def rSlT2 (K : PySem.W.Frag) : V → Option Int → Option Int → Hp → VK → Prop := fun x lo hi H Q => rSlS x lo hi H Q ∨ (rSlA K x lo hi H Q ∨ rSlL K x lo hi H Q)
theorem cut_rel {K : PySem.W.Frag} {H : Hp} {vs : List V} {ds : List D} (r : Rps K H vs ds) (lo hi : Option Int) : Rps K H (cutV vs lo hi) (cutL ds lo hi) := by
  unfold cutV cutL
  rw [r.length]
  exact (r.drop _).take _
theorem cutL_whole {α : Type} {xs : List α} {lo hi : Option Int} (h : HT.sIx xs.length 0 lo = 0 ∧ HT.sIx xs.length xs.length hi = xs.length) : cutL xs lo hi = xs := by
  unfold cutL
  rw [h.1, h.2]
  simp
theorem pv_slice {fl fh : OF} (he : PV X e te fe) (hl : PVO X lo tl fl) (hu : PVO X hi th fh) : PV X (.Subscript e (.Slice lo hi none p2) pos) (tSl (rSlT2 X.K) te tl th) (sliceF fe fl fh) := by
  refine ⟨pe_slice (sl_str.or (sl_tupA.or sl_list)) he.pe hl.po hu.po, ?_⟩
  intro σ H A env S v S' hE hS hf Q hq
  obtain ⟨⟨x, S1⟩, e1, hf⟩ := Option.bind_eq_some_iff.mp hf
  obtain ⟨⟨l, S2⟩, e2, hf⟩ := Option.bind_eq_some_iff.mp hf
  obtain ⟨⟨h, S3⟩, e3, hf⟩ := Option.bind_eq_some_iff.mp hf
  refine he.ok σ H A env S x S1 hE hS e1 _ fun u H1 A1 p1 k1 s1 r1 => ?_
  refine hl.ok σ H1 A1 env S1 l S2 (hE.keep k1 p1) s1 e2 _ fun H2 A2 p2 k2 s2 => ?_
  refine hu.ok σ H2 A2 env S2 h S3 (hE.keep (k1.trans k2) (p1.trans p2)) s2 e3 _ fun H3 A3 p3 k3 s3 => ?_
  have r3 := r1.keep (k2.trans k3) (p2.trans p3)
  have fin : ∀ u' H' A', Pre A3 A' → Keep H3 H' → RS X.K H' A' S' → Rt X.K H' A' u' v → Q u' H' := fun u' H' A' p k s r => hq u' H' A' (p1.trans (p2.trans (p3.trans p))) (k1.trans (k2.trans (k3.trans k))) s r
  simp only [slT] at hf
  split at hf
  · split at hf
    · next hz =>
      cases hf
      cases r3 with
      | p r => cases r; exact .inl ⟨_, rfl, hz, fin _ H3 A3 (Pre.refl _) (Keep.refl _) s3 (.p (.str _))⟩
    · cases hf
  · cases hf
    obtain ⟨p, vs, rfl, s, r⟩ := r3.tupOf
    refine .inr (.inl ⟨p, vs, rfl, s, fun hw => ?_, fun _ z hz => ?_⟩)
    · rw [r.length] at hw
      refine fin _ H3 A3 (Pre.refl _) (Keep.refl _) s3 (.p (.tup s ?_))
      rw [cutL_whole hw]
      exact r
    · exact fin _ _ A3 (Pre.refl _) (Keep.new hz) (s3.new hz) (.p (.tup (SqT.of upd_same) ((cut_rel r l h).keep (Keep.new hz))))
  · obtain ⟨ds, e4, hf⟩ := Option.map_eq_some_iff.mp hf
    cases hf
    obtain ⟨p, vs, rfl, s, r⟩ := lstOf_ok s3 r3 e4
    exact .inr (.inr ⟨p, vs, rfl, s, fun z hz => fin _ _ _ (Pre.app A3 [z]) (Keep.new hz) (s3.newL hz (cut_rel r l h)) s3.numL⟩)
/-- xs[::-1] of a list -/
def revF (fe : EF) : EF := fun env S => (fe env S).bind fun x => (lstOf x.2 x.1).map fun ds => (.loc x.2.length, x.2 ++ [.lst ds.reverse])
theorem pv_revL {k : Nat} {p1 p2 p3 pos : Pos} (he : PV X e te fe) : PV X (.Subscript e (.Slice none none (some (.UnaryOp .USub (.Constant (.int 1) k p1) p2)) p3) pos) (tRevL X.K te) (revF fe) := by
  refine ⟨pe_revL he.pe, ?_⟩
  intro σ H A env S v S' hE hS hf Q hq
  obtain ⟨⟨x, S1⟩, e1, hf⟩ := Option.bind_eq_some_iff.mp hf
  obtain ⟨ds, e4, hf⟩ := Option.map_eq_some_iff.mp hf
  cases hf
  refine he.ok σ H A env S x S1 hE hS e1 _ fun u H1 A1 p1 k1 s1 r1 => ?_
  obtain ⟨p, vs, rfl, s, r⟩ := lstOf_ok s1 r1 e4
  exact ⟨p, vs, rfl, s, fun z hz => hq _ _ _ (p1.trans (Pre.app A1 [z])) (k1.trans (Keep.new hz)) (s1.newL hz r.rev) s1.numL⟩

/-! ### methods of lists -/
/-- the receiver is a list of the store -/
def isLst (S : Sto) : T → Bool
  | .loc n => match S[n]? with
    | some (.lst _) => true
    | _ => false
  | _ => false
theorem isLst_tyV {K : PySem.W.Frag} {H : Hp} {A : List Addr} {S : Sto} {v : V} {t : T} (hs : RS K H A S) (r : Rt K H A v t) (h : isLst S t = true) : tyV K "list" v H := by
  cases r with
  | loc e =>
    simp only [isLst] at h
    split at h
    · next xs q =>
      obtain ⟨vs, h1, _⟩ := hs.lstOf e q
      exact .inl ⟨rfl, vs, SqL.of h1⟩
    · cases h
  | p r => cases h
  | mix s r => cases h
  | ro s r => cases h
  | ft s d r => cases h
abbrev MF := T → List T → Sto → Option (T × Sto)
def MtOk (K : PySem.W.Frag) (r : V → List V → Hp → VK → Prop) (g : MF) : Prop := ∀ (H : Hp) (A : List Addr) (S : Sto) (x : V) (vs : List V) (a : T) (ts : List T) (v : T) (S' : Sto), RS K H A S → Rt K H A x a → Rts K H A vs ts → g a ts S = some (v, S') →
  ∀ Q : VK, (∀ u H' A', Pre A A' → Keep H H' → RS K H' A' S' → Rt K H' A' u v → Q u H') → r x vs H Q
def methF (g : MF) (fe : EF) (fA : AF) : EF := fun env S => (fe env S).bind fun x => if isLst x.2 x.1 = true then (fA env x.2).bind fun y => g x.1 y.1 y.2 else none
theorem meth_ok {K : PySem.W.Frag} {r : V → List V → Hp → VK → Prop} {g : MF} (h : MtOk K r g) (he : EOk K te fe) (ha : AOk K tA fA) : EOk K (tBM K "list" r te tA) (methF g fe fA) := by
  intro σ H A env S v S' hE hS hf Q hq
  obtain ⟨⟨x, S1⟩, e1, hf⟩ := Option.bind_eq_some_iff.mp hf
  refine he σ H A env S x S1 hE hS e1 _ fun u H1 A1 p1 k1 s1 r1 => ?_
  simp only at hf
  split at hf
  · next hl =>
    obtain ⟨⟨y, S2⟩, e2, hf⟩ := Option.bind_eq_some_iff.mp hf
    refine ⟨isLst_tyV s1 r1 hl, ?_⟩
    refine ha σ H1 A1 env S1 y S2 (hE.keep k1 p1) s1 e2 _ fun us H2 A2 p2 k2 s2 r2 => ?_
    exact h H2 A2 S2 u us x y v S' s2 (r1.keep k2 p2) r2 hf Q fun u3 H3 A3 p3 k3 s3 r3 => hq u3 H3 A3 (p1.trans (p2.trans p3)) (k1.trans (k2.trans k3)) s3 r3
  · cases hf
def appendT : MF := fun x ts S => match x, ts with
  | .loc n, [.p d] => match S[n]? with
    | some (.lst xs) => if xs.length < sizeLine then some (.p .none, S.set n (.lst (xs ++ [d]))) else none
    | _ => none
  | _, _ => none
theorem append_ok {K : PySem.W.Frag} : MtOk K rAppend appendT := by
  intro H A S x vs a ts v S' hs rx rs h Q hq
  unfold appendT at h
  split at h
  · obtain ⟨p, rfl, e⟩ := rx.locOf
    obtain ⟨y, rfl, ry⟩ := rs.one
    split at h
    · next xs q =>
      split at h
      · next hz =>
        cases h
        obtain ⟨ws, h1, r1⟩ := hs.lstOf e q
        cases ry with
        | p ry =>
          refine ⟨p, ws, y, rfl, rfl, h1, by rw [r1.length]; exact hz, ?_⟩
          have k := Keep.put (o' := .lst (ws ++ [y])) h1 free_lst
          exact hq _ _ A (Pre.refl A) k (hs.put e ⟨_, upd_same, (r1.app (.cons ry .nil)).keep k⟩) (.p .non)
      · cases h
    · cases h
  · cases h
def popAtT : MF := fun x ts S => match x, ts with
  | .loc n, [.p (.int i)] => match S[n]? with
    | some (.lst xs) => if 0 ≤ i ∧ i < (xs.length : Int) ∧ i < 2 ^ 63 then (xs[i.toNat]?).map fun d => (.p d, S.set n (.lst (xs.eraseIdx i.toNat))) else none
    | _ => none
  | _, _ => none
theorem popAt_ok {K : PySem.W.Frag} : MtOk K rPopAt popAtT := by
  intro H A S x vs a ts v S' hs rx rs h Q hq
  unfold popAtT at h
  split at h
  · obtain ⟨p, rfl, e⟩ := rx.locOf
    obtain ⟨y, rfl, ry⟩ := rs.one
    split at h
    · next xs q =>
      split at h
      · next hz =>
        obtain ⟨d, e2, h⟩ := Option.map_eq_some_iff.mp h
        cases h
        obtain ⟨ws, h1, r1⟩ := hs.lstOf e q
        obtain ⟨u, e3, ru⟩ := r1.get e2
        cases ry with
        | p ry =>
          cases ry
          have k := fun o' => Keep.put (o' := o') h1 free_lst
          exact ⟨p, ws, _, _, u, rfl, rfl, h1, by omega, hz.2.2, seqIndex_of hz.1 (by rw [r1.length]; exact hz.2.1), e3, hq _ _ A (Pre.refl A) (k _) (hs.put e ⟨_, upd_same, (r1.eraseIdx _).keep (k _)⟩) (.p (ru.keep (k _)))⟩
      · cases h
    · cases h
  · cases h
/-- o[i] = v of a list -/
def setLS (fo fi fv : EF) : SF := fun _ env S => (fv env S).bind fun v => (fo env v.2).bind fun o => (fi env o.2).bind fun i => match v.1, o.1, i.1 with
  | .p d, .loc n, .p (.int k) => match i.2[n]? with
    | some (.lst xs) => (ixN xs.length k).map fun j => (.nx, env, (i.2.set n (.lst (xs.set j d))).take S.length)
    | _ => none
  | _, _, _ => none
theorem pvs_setL {o i : Expr} {to ti tv : TE} {fo fi fv : EF} {pos' : Pos} (ho : PV X o to fo) (hi : PV X i ti fi) (hv : PV X e tv fv) (hs : swapsWithSole [.Subscript o i pos'] e pos.line X.env = pure false := by rfl) (hw : swappedStores [.Subscript o i pos'] e X.env = pure none := by rfl)
    (h1 : (assignEach [.Subscript o i pos'] X.env).map (·.2) = [assign (.Subscript o i pos') X.env] := by rfl)
    (ha : ∀ v, assign (.Subscript o i pos') X.env v = (do
      let ov ← holding [v] (eval o X.env)
      let iv ← holding [v, ov] (eval i X.env)
      standAt pos'
      holding [v, ov, iv] (setItem ov iv v)
      release [v, ov, iv] []) := by intro _; rfl) : PVS X (.Assign [.Subscript o i pos'] e pos) (tAsg tv (gSub to ti rSetL)) (setLS fo fi fv) := by
  refine ⟨ps_asg hv.pe (pg_sub ho.pe hi.pe set_list ha) hs hw h1, ?_⟩
  intro n σ H A env S oo env' S' hn hE hS hf D hD
  obtain ⟨⟨x, S1⟩, e1, hf⟩ := Option.bind_eq_some_iff.mp hf
  obtain ⟨⟨y, S2⟩, e2, hf⟩ := Option.bind_eq_some_iff.mp hf
  obtain ⟨⟨z, S3⟩, e3, hf⟩ := Option.bind_eq_some_iff.mp hf
  refine hv.ok σ H A env S x S1 hE hS e1 _ fun u H1 A1 p1 k1 s1 r1 => ?_
  refine ho.ok σ H1 A1 env S1 y S2 (hE.keep k1 p1) s1 e2 _ fun u2 H2 A2 p2 k2 s2 r2 => ?_
  refine hi.ok σ H2 A2 env S2 z S3 (hE.keep (k1.trans k2) (p1.trans p2)) s2 e3 _ fun u3 H3 A3 p3 k3 s3 r3 => ?_
  simp only at hf
  split at hf
  · split at hf
    · next xs q =>
      obtain ⟨j, e4, hf⟩ := Option.map_eq_some_iff.mp hf
      cases hf
      obtain ⟨pa, rfl, e5⟩ := (r2.keep k3 p3).locOf
      obtain ⟨ws, h6, r6⟩ := s3.lstOf e5 q
      cases r3 with
      | p r3 =>
        cases r3
        cases r1 with
        | p r1 =>
          have kk := Keep.put (o' := .lst (ws.set j u)) h6 free_lst
          refine ⟨pa, ws, _, j, rfl, rfl, h6, by rw [r6.length]; exact e4, ?_⟩
          have s4 : RS X.K (upd H3 pa (.lst (ws.set j u))) A3 (S3.set _ (.lst (xs.set j _))) := s3.put e5 ⟨_, upd_same, (r6.set (r1.keep (k2.trans k3)) j).keep kk⟩
          have pA := p1.trans (p2.trans p3)
          have pT : Pre A (A3.take S.length) := by rw [← hS.len]; exact preTake pA
          exact hD _ _ (pT.sameTo n) (k1.trans (k2.trans (k3.trans kk))) (s4.take _) σ (hE.keep (k1.trans (k2.trans (k3.trans kk))) pT)
    · cases hf
  · cases hf

/-! ### what is walked -/
def seqI (fe : EF) : IF := fun env S => (fe env S).bind fun x => match x.1 with
  | .p (.tuple ds) => some (ds, [], x.2)
  | .ro xs => some (xs, [], x.2)
  | .loc n => match x.2[n]? with
    | some (.lst xs) => some (xs, [(n, .lst xs)], x.2)
    | _ => none
  | _ => none
/-- over a tuple -/
def tupI (fe : EF) : IF := fun env S => (fe env S).bind fun x => match x.1 with
  | .p (.tuple ds) => some (ds, [], x.2)
  | _ => none
theorem SqT.inj2 {K : PySem.W.Frag} {H : Hp} {a : Addr} {xs ys : List V} (h : SqT K H a xs) (h' : SqT K H a ys) (hH : ∀ o, K.lookup a = some o → H a = none) : xs = ys := by
  rcases h with (h | ⟨o, h⟩) | ⟨o, its, n, e, _, d, _, r⟩
  · rcases h' with (h' | ⟨o', h'⟩) | ⟨o', its', n', e', _⟩
    · rw [h] at h'; cases h'; rfl
    · rw [h] at h'; cases h'
    · rw [hH _ e'] at h; cases h
  · rcases h' with (h' | ⟨o', h'⟩) | ⟨o', its', n', e', _⟩
    · rw [h] at h'; cases h'
    · rw [h] at h'; cases h'; rfl
    · rw [hH _ e'] at h; cases h
  · rcases h' with (h' | ⟨o', h'⟩) | ⟨o', its', n', e', _, d', _, r'⟩
    · rw [hH _ e] at h'; cases h'
    · rw [hH _ e] at h'; cases h'
    · rw [e] at e'; cases e'; rw [d] at d'; cases d'; exact r.inj r'
theorem pvi_tup (he : PV X e te fe) : PVI X tg e (iTup X.K te) (tupI fe) := by
  refine ⟨pi_tup he.pe, ?_⟩
  intro σ H A env S xs gd S' hE hS hf R hR
  obtain ⟨⟨x, S1⟩, e1, hf⟩ := Option.bind_eq_some_iff.mp hf
  refine he.ok σ H A env S x S1 hE hS e1 _ fun u H1 A1 p1 k1 s1 r1 => ?_
  simp only at hf
  split at hf
  · cases hf
    obtain ⟨a, vs, rfl, s, r⟩ := r1.tupOf
    refine ⟨a, rfl, ⟨vs, s⟩, hR _ H1 A1 p1 k1 s1 (fun p h => by simp at h) ⟨fun i H2 A2 S2 d k2 s2 _ _ hd => ?_, fun i H2 A2 S2 k2 s2 _ _ hl => ?_⟩⟩
    · obtain ⟨v, ev, rv⟩ := (r.keep k2).get hd
      have s3 := k2.sqt s
      exact ⟨⟨vs, v, s3, ev⟩, fun y H3 hy => by
        obtain ⟨rfl, hy⟩ := hy
        have := hy vs s3
        rw [ev] at this; cases this
        exact ⟨Keep.refl _, s2, rv⟩⟩
    · exact ⟨vs, k2.sqt s, by rw [r.length]; exact hl⟩
  · cases hf
/-- over a list -/
def lstI (fe : EF) : IF := fun env S => (fe env S).bind fun x => match x.1 with
  | .ro xs => some (xs, [], x.2)
  | .loc n => match x.2[n]? with
    | some (.lst xs) => some (xs, [(n, .lst xs)], x.2)
    | _ => none
  | _ => none
theorem pvi_list (he : PV X e te fe) : PVI X tg e (iList X.K te) (lstI fe) := by
  refine ⟨pi_list he.pe, ?_⟩
  intro σ H A env S xs gd S' hE hS hf R hR
  obtain ⟨⟨x, S1⟩, e1, hf⟩ := Option.bind_eq_some_iff.mp hf
  refine he.ok σ H A env S x S1 hE hS e1 _ fun u H1 A1 p1 k1 s1 r1 => ?_
  simp only at hf
  split at hf
  · cases hf
    cases r1 with
    | @ro a vs ds s r =>
      refine ⟨a, rfl, ⟨vs, s.sql⟩, hR _ H1 A1 p1 k1 s1 (fun p h => by simp at h) ⟨fun i H2 A2 S2 d k2 s2 _ _ hd => ?_, fun i H2 A2 S2 k2 s2 _ _ hl => ?_⟩⟩
      · obtain ⟨v, ev, rv⟩ := (r.keep k2).get hd
        have s3 := (k2.rol s).sql
        exact ⟨⟨vs, v, s3, ev⟩, fun y H3 hy => by
          obtain ⟨rfl, hy⟩ := hy
          have := hy vs s3
          rw [ev] at this; cases this
          exact ⟨Keep.refl _, s2, rv⟩⟩
      · exact ⟨vs, (k2.rol s).sql, by rw [r.length]; exact hl⟩
  · split at hf
    · next ys q =>
      cases hf
      obtain ⟨a, rfl, ea⟩ := r1.locOf
      have hlt := (List.getElem?_eq_some_iff.mp ea).1
      obtain ⟨ws, h1, _⟩ := s1.lstOf ea q
      refine ⟨a, rfl, ⟨ws, SqL.of h1⟩, hR _ H1 A1 p1 k1 s1 (fun p h => by
        rcases List.mem_cons.mp h with h | h
        · rw [h]; exact hlt
        · simp at h) ⟨fun i H2 A2 S2 d k2 s2 hA hG hd => ?_, fun i H2 A2 S2 k2 s2 hA hG hl => ?_⟩⟩
      · obtain ⟨vs, h2, r⟩ := s2.lstOf ((hA _ List.mem_cons_self).trans ea) (hG _ List.mem_cons_self)
        obtain ⟨v, ev, rv⟩ := r.get hd
        exact ⟨⟨vs, v, SqL.of h2, ev⟩, fun y H3 hy => by
          obtain ⟨rfl, hy⟩ := hy
          have := hy vs (SqL.of h2)
          rw [ev] at this; cases this
          exact ⟨Keep.refl _, s2, rv⟩⟩
      · obtain ⟨vs, h2, r⟩ := s2.lstOf ((hA _ List.mem_cons_self).trans ea) (hG _ List.mem_cons_self)
        exact ⟨vs, SqL.of h2, by rw [r.length]; exact hl⟩
    · cases hf
  · cases hf
/-- lo, lo + 1, .. -/
def rangeL (lo : Int) (n : Nat) : List D := (List.range n).map fun (i : Nat) => PyData.int (lo + (i : Int))
def small62 (i : Int) : Bool := decide (-(2 ^ 62) ≤ i) && decide (i < 2 ^ 62)
theorem small62_ok {i : Int} (h : small62 i = true) : -(2 ^ 62) ≤ i ∧ i < 2 ^ 62 := by simpa [small62] using h
theorem itr_ok {K : PySem.W.Frag} {H1 : Hp} {A1 : List Addr} (lo : Int) (n : Nat) : ItOk K (Itr lo n) H1 A1 (rangeL lo n) [] := by
  refine ⟨fun i H2 A2 S2 d k2 s2 _ _ hd => ?_, fun i H2 A2 S2 k2 s2 _ _ hl => ?_⟩
  · unfold rangeL at hd
    rw [List.getElem?_map] at hd
    cases g : (List.range n)[i]? with
    | none => rw [g] at hd; cases hd
    | some j =>
      rw [g] at hd
      obtain ⟨h1, h2⟩ := List.getElem?_eq_some_iff.mp g
      simp at h1 h2
      subst h2
      have : PyData.int (lo + (i : Int)) = d := Option.some.inj hd
      subst this
      exact ⟨h1, fun y H3 hy => by
        obtain ⟨rfl, rfl⟩ := hy
        exact ⟨Keep.refl _, s2, .int _⟩⟩
  · show n ≤ i
    simpa [rangeL] using hl
def range1I (fA : AF) : IF := fun env S => (fA env S).bind fun x => match x.1 with
  | [.p (.int j)] => if small62 j = true then some (rangeL 0 j.toNat, [], x.2) else none
  | _ => none
def range2I (fA : AF) : IF := fun env S => (fA env S).bind fun x => match x.1 with
  | [.p (.int i), .p (.int j)] => if small62 i = true ∧ small62 j = true then some (rangeL i (j - i).toNat, [], x.2) else none
  | _ => none
theorem pvi_range1 {p pos : Pos} (hg : Gl X "range") (hm : X.mg "range" = none) (ha : PVA X [a] tA fA) (hs : starEach [a] X.env = [(false, eval a X.env)] := by rfl) : PVI X tg (.Call (.Name "range" p) [a] [] pos) (iRng1 tA) (range1I fA) := by
  refine ⟨pi_range1 hg hm ha.pa hs, ?_⟩
  intro σ H A env S xs gd S' hE hS hf R hR
  obtain ⟨⟨x, S1⟩, e1, hf⟩ := Option.bind_eq_some_iff.mp hf
  refine ha.ok σ H A env S x S1 hE hS e1 _ fun us H1 A1 p1 k1 s1 r1 => ?_
  simp only at hf
  split at hf
  · split at hf
    · next h62 =>
      cases hf
      obtain ⟨y, rfl, ry⟩ := r1.one
      cases ry with
      | p ry => cases ry; exact ⟨_, rfl, (small62_ok h62).1, (small62_ok h62).2, hR _ H1 A1 p1 k1 s1 (fun p h => by simp at h) (itr_ok _ _)⟩
    · cases hf
  · cases hf
theorem pvi_range2 {p pos : Pos} (hg : Gl X "range") (hm : X.mg "range" = none) (ha : PVA X [a, b] tA fA) (hs : starEach [a, b] X.env = [(false, eval a X.env), (false, eval b X.env)] := by rfl) (hs2 : starEach [b] X.env = [(false, eval b X.env)] := by rfl) : PVI X tg (.Call (.Name "range" p) [a, b] [] pos) (iRng2 tA) (range2I fA) := by
  refine ⟨pi_range2 hg hm ha.pa hs hs2, ?_⟩
  intro σ H A env S xs gd S' hE hS hf R hR
  obtain ⟨⟨x, S1⟩, e1, hf⟩ := Option.bind_eq_some_iff.mp hf
  refine ha.ok σ H A env S x S1 hE hS e1 _ fun us H1 A1 p1 k1 s1 r1 => ?_
  simp only at hf
  split at hf
  · split at hf
    · next h62 =>
      cases hf
      obtain ⟨y, z, rfl, ry, rz⟩ := r1.two
      cases ry with
      | p ry => cases ry; cases rz with
        | p rz => cases rz; exact ⟨_, _, rfl, ⟨(small62_ok h62.1).1, (small62_ok h62.1).2, (small62_ok h62.2).1, (small62_ok h62.2).2⟩, hR _ H1 A1 p1 k1 s1 (fun p h => by simp at h) (itr_ok _ _)⟩
    · cases hf
  · cases hf

/-! ### comprehensions -/
/-- the own slots of a comprehension's block are not set -/
def wipeE (env : Env) : List Nat → Env
  | [] => env
  | v :: vs => (wipeE env vs).set v none
theorem RE.wipe {K : PySem.W.Frag} {H : Hp} {A : List Addr} {σ : L2.St} {env : Env} (h : RE K H A σ env) : ∀ vs : List Nat, RE K H A (L2.wipe σ vs) (wipeE env vs)
  | [] => h
  | v :: vs => by
    have ih := RE.wipe h vs
    refine ⟨by simp [L2.wipe, wipeE, ih.1], fun j t e => ?_⟩
    unfold wipeE at e
    unfold L2.wipe
    by_cases hj : v = j
    · subst hj
      by_cases hl : v < (wipeE env vs).length
      · rw [List.getElem?_set_self hl] at e; cases e
      · rw [List.getElem?_eq_none (by simpa using hl)] at e; cases e
    · rw [List.getElem?_set_ne hj] at e
      obtain ⟨x, e1, r⟩ := ih.2 j t e
      exact ⟨x, by rw [List.getElem?_set_ne hj]; exact e1, r⟩
structure PVTs (X : Cx) (ifs : List Expr) (t : TT) (f : TF) : Prop where
  pt : PTs X ifs t
  ok : TOk X.K t f
def yesT : TF := fun _ S => some (true, S)
theorem pvts_nil : PVTs X [] tYes yesT := ⟨pts_nil, fun σ H A env S r S' hE hS h Q hq => by cases h; exact hq H A (Pre.refl A) (Keep.refl H) hS⟩
theorem pvts_one (h : PVT X c t f) : PVTs X [c] t f := ⟨pts_one h.pt, h.ok⟩
/-- a target by the comprehension's own slots: how it sets them -/
structure OwnG (g : TG) (vs : List Nat) : Prop where
  wp : ∀ (v : V) (σ : L2.St) (H : Hp) (Q : L2.St → Hp → Prop), g v σ H (fun σ' H' => L2.wipe σ' vs = L2.wipe σ vs → Q σ' H') → g v σ H Q
  mono : ∀ (v : V) (σ : L2.St) (H : Hp) (Q Q' : L2.St → Hp → Prop), (∀ σ' H', Q σ' H' → Q' σ' H') → g v σ H Q → g v σ H Q'
structure OwnGs (g : TGs) (vs : List Nat) : Prop where
  wp : ∀ (v : List V) (σ : L2.St) (H : Hp) (Q : L2.St → Hp → Prop), g v σ H (fun σ' H' => L2.wipe σ' vs = L2.wipe σ vs → Q σ' H') → g v σ H Q
  mono : ∀ (v : List V) (σ : L2.St) (H : Hp) (Q Q' : L2.St → Hp → Prop), (∀ σ' H', Q σ' H' → Q' σ' H') → g v σ H Q → g v σ H Q'
theorem wipe_none {σ : L2.St} {i : Nat} : ∀ {vs : List Nat}, i ∈ vs → i < σ.length → (L2.wipe σ vs)[i]? = some none
  | v :: vs, h, hl => by
    unfold L2.wipe
    by_cases hv : v = i
    · subst hv
      exact List.getElem?_set_self (by rw [wipe_length]; exact hl)
    · rw [List.getElem?_set_ne hv]
      rcases List.mem_cons.mp h with e | h
      · exact absurd e.symm hv
      · exact wipe_none h hl
theorem wipe_ext {σ τ : L2.St} {vs : List Nat} (hl : σ.length = τ.length) (h : ∀ i, i ∉ vs → σ[i]? = τ[i]?) : L2.wipe σ vs = L2.wipe τ vs := by
  refine List.ext_getElem? fun i => ?_
  by_cases hi : i ∈ vs
  · by_cases hlt : i < σ.length
    · rw [wipe_none hi hlt, wipe_none hi (hl ▸ hlt)]
    · rw [List.getElem?_eq_none (by rw [wipe_length]; omega), List.getElem?_eq_none (by rw [wipe_length]; omega)]
  · rw [wipe_out hi, wipe_out hi, h i hi]
theorem wipe_wipe (σ : L2.St) (vs : List Nat) : L2.wipe (L2.wipe σ vs) vs = L2.wipe σ vs := wipe_ext (by rw [wipe_length]) fun i hi => wipe_out hi
theorem own_name {i : Nat} {vs : List Nat} (hi : i ∈ vs) : OwnG (gName i) vs :=
  ⟨fun v σ H Q h => h (wipe_ext (by simp) fun j hj => List.getElem?_set_ne (fun e => hj (by rw [← e]; exact hi))), fun v σ H Q Q' q h => q _ _ h⟩
theorem own_nil {vs : List Nat} : OwnGs gNil vs := ⟨fun v σ H Q h => ⟨h.1, h.2 rfl⟩, fun v σ H Q Q' q h => ⟨h.1, q _ _ h.2⟩⟩
theorem own_cons {g : TG} {gs : TGs} {vs : List Nat} (h1 : OwnG g vs) (h2 : OwnGs gs vs) : OwnGs (gCons g gs) vs := by
  refine ⟨fun v σ H Q h => ?_, fun v σ H Q Q' q h => ?_⟩
  · obtain ⟨x, r, e, h⟩ := h
    refine ⟨x, r, e, h1.wp _ _ _ _ (h1.mono _ _ _ _ _ (fun σ' H' z w => ?_) h)⟩
    exact h2.wp _ _ _ _ (h2.mono _ _ _ _ _ (fun σ2 H2 y z2 => y (z2.trans w)) z)
  · obtain ⟨x, r, e, h⟩ := h
    exact ⟨x, r, e, h1.mono _ _ _ _ _ (fun σ' H' z => h2.mono _ _ _ _ _ q z) h⟩
theorem own_tup {K : PySem.W.Frag} {n : Nat} {gs : TGs} {vs : List Nat} (h : OwnGs gs vs) : OwnG (gTup K n gs) vs := by
  refine ⟨fun v σ H Q q => ?_, fun v σ H Q Q' q h' => ?_⟩
  · obtain ⟨a, xs, e, s, l, q⟩ := q
    exact ⟨a, xs, e, s, l, h.wp _ _ _ _ q⟩
  · obtain ⟨a, xs, e, s, l, q'⟩ := h'
    exact ⟨a, xs, e, s, l, h.mono _ _ _ _ _ q q'⟩
/-- the store without its object number m, a list, and the list -/
def unsnoc (m : Nat) (S : Sto) : Option (Sto × List D) := match S[m]? with
  | some (.lst xs) => some (S.take m, xs)
  | _ => none
theorem unsnoc_app {m : Nat} {S : Sto} {xs : List D} (h : S.length = m) : unsnoc m (S ++ [.lst xs]) = some (S, xs) := by
  subst h
  simp [unsnoc]
open Classical in
noncomputable def lcGo (g : GF) (ft : TF) (fe : EF) (env : Env) (m : Nat) (gd : Gd) : List D → List D → Sto → Option (List D × Sto)
  | [], acc, S => if GdOk gd S then some (acc, S) else none
  | x :: xs, acc, S => if GdOk gd S then (g (.p x) env (S ++ [.lst acc])).bind fun y => (ft y.1 y.2).bind fun b => if b.1 = true then
      (fe y.1 b.2).bind fun z => match z.1 with
        | .p d => (unsnoc m z.2).bind fun w => if w.2.length < sizeLine then lcGo g ft fe env m gd xs (w.2 ++ [d]) w.1 else none
        | _ => none
      else (unsnoc m b.2).bind fun w => lcGo g ft fe env m gd xs w.2 w.1 else none
noncomputable def lcF (fi : IF) (g : GF) (ft : TF) (fe : EF) (vs : List Nat) : EF := fun env S => (fi env S).bind fun it => (lcGo g ft fe (wipeE env vs) it.2.2.length it.2.1 it.1 [] it.2.2).map fun z => (.loc it.2.2.length, z.2 ++ [.lst z.1])
theorem RS.unsnoc {K : PySem.W.Frag} {H : Hp} {A : List Addr} {S S' : Sto} {m : Nat} {xs : List D} (hs : RS K H A S) (h : Pv.unsnoc m S = some (S', xs)) : S' = S.take m ∧ S'.length = m ∧ S[m]? = some (.lst xs) := by
  unfold Pv.unsnoc at h
  split at h
  · next ys q =>
    cases h
    have := (List.getElem?_eq_some_iff.mp q).1
    exact ⟨rfl, by rw [List.length_take]; omega, q⟩
  · cases h
theorem take_snoc {α : Type} {A : List α} {m : Nat} {d : α} (h : A[m]? = some d) : A.take (m + 1) = A.take m ++ [d] := by
  rw [List.take_succ, h]; rfl
theorem lc_ok {K : PySem.W.Frag} {wi : TI} {g : TG} {tt : TT} {te : TE} {fi : IF} {fg : GF} {ft : TF} {fe : EF} {vs : List Nat} (hi : IOk K wi fi) (hg : GOk K g fg) (og : OwnG g vs) (ht : TOk K tt ft) (he : EOk K te fe) : EOk K (tLc wi g tt te vs) (lcF fi fg ft fe vs) := by
  intro σ H A env S v S' hE hS hf Q hq
  obtain ⟨⟨xs, gd, S1⟩, e1, hf⟩ := Option.bind_eq_some_iff.mp hf
  obtain ⟨⟨fin, S9⟩, e2, hf⟩ := Option.map_eq_some_iff.mp hf
  cases hf
  refine hi σ H A env S xs gd S1 hE hS e1 _ fun J H1 A1 p1 k1 r1 gl J1 => ?_
  intro D hD
  have kD : Keep H1 (upd H1 D (.lst [])) := Keep.new hD
  have m1 : A1.length = S1.length := r1.len
  refine ⟨fun i m H2 => m = xs.length - i ∧ i ≤ xs.length ∧ ∃ A2 S2 acc, Keep H1 H2 ∧ Pre A1 A2 ∧ S2.length = S1.length ∧ RS K H2 (A2 ++ [D]) (S2 ++ [.lst acc]) ∧ lcGo fg ft fe (wipeE env vs) S1.length gd (xs.drop i) acc S2 = some (fin, S9),
    ⟨xs.length, by simp, Nat.zero_le _, A1, S1, [], kD, Pre.refl _, rfl, r1.newL hD .nil, e2⟩, ?_⟩
  rintro i m H2 ⟨rfl, hil, A2, S2, acc, k2, p2, l2, r2, hf2⟩
  have la : A2.length = S2.length := by have := r2.len; simp at this; exact this
  have gA : ∀ p ∈ gd, (A2 ++ [D])[p.1]? = A1[p.1]? := fun p hp => by
    have h1 := gl p hp
    rw [(p2.trans (Pre.app A2 [D])) p.1 _ (List.getElem?_eq_getElem h1), List.getElem?_eq_getElem h1]
  have gG : GdOk gd S2 → GdOk gd (S2 ++ [.lst acc]) := fun h p hp => by
    rw [List.getElem?_append_left (List.getElem?_eq_some_iff.mp (h p hp)).1]
    exact h p hp
  by_cases hlt : i < xs.length
  · have hx : xs[i]? = some xs[i] := List.getElem?_eq_getElem hlt
    rw [List.drop_eq_getElem_cons hlt] at hf2
    simp only [lcGo] at hf2
    split at hf2
    · next hgd =>
      obtain ⟨⟨env3, S3⟩, e3, hf2⟩ := Option.bind_eq_some_iff.mp hf2
      obtain ⟨⟨b, S4⟩, e4, hf2⟩ := Option.bind_eq_some_iff.mp hf2
      obtain ⟨go, yl⟩ := J1.go i H2 (A2 ++ [D]) (S2 ++ [.lst acc]) xs[i] k2 r2 gA (gG hgd) hx
      refine .inr ⟨go, fun H' => i + 1 ≤ xs.length ∧ ∃ A2 S2 acc, Keep H1 H' ∧ Pre A1 A2 ∧ S2.length = S1.length ∧ RS K H' (A2 ++ [D]) (S2 ++ [.lst acc]) ∧ lcGo fg ft fe (wipeE env vs) S1.length gd (xs.drop (i + 1)) acc S2 = some (fin, S9), fun H' h' => ⟨xs.length - (i + 1), by omega, rfl, h'⟩, fun x H3 hy => ?_⟩
      obtain ⟨k3, r3, q3⟩ := yl x H3 hy
      have pB : Pre A (A2 ++ [D]) := p1.trans (p2.trans (Pre.app A2 [D]))
      have kB : Keep H H3 := k1.trans (k2.trans k3)
      refine og.wp _ _ _ _ (hg (L2.wipe σ vs) H3 (A2 ++ [D]) (wipeE env vs) _ x _ env3 S3 ((hE.keep kB pB).wipe vs) r3 (.p q3) e3 _ fun σ4 H4 A4 p4 k4 r4 q4 w4 => ⟨w4.trans (wipe_wipe σ vs), ?_⟩)
      refine ht σ4 H4 A4 env3 S3 b S4 q4 r4 e4 _ fun H5 A5 p5 k5 r5 => ?_
      have dAt : ∀ {A' : List Addr}, Pre (A2 ++ [D]) A' → A'[S1.length]? = some D := fun {A'} p => p _ _ (by rw [← l2, ← la]; simp)
      cases b with
      | true =>
        rw [if_pos rfl]
        simp only [if_true] at hf2
        obtain ⟨⟨z, S6⟩, e6, hf2⟩ := Option.bind_eq_some_iff.mp hf2
        refine he σ4 H5 A5 env3 S4 z S6 (q4.keep k5 p5) r5 e6 _ fun u H6 A6 p6 k6 r6 q6 => ?_
        simp only at hf2
        split at hf2
        · next d =>
          obtain ⟨⟨S7, acc'⟩, e7, hf2⟩ := Option.bind_eq_some_iff.mp hf2
          simp only at hf2
          split at hf2
          · next hz =>
            obtain ⟨rfl, l7, g7⟩ := r6.unsnoc e7
            have pD := dAt (p4.trans (p5.trans p6))
            obtain ⟨ws, h7, r7⟩ := r6.lstOf pD g7
            cases q6 with
            | p q6 =>
              refine ⟨ws, h7, by rw [r7.length]; exact hz, hlt, A6.take S1.length, S6.take S1.length, acc' ++ [d], ?_⟩
              have kk := Keep.put (o' := .lst (ws ++ [u])) h7 free_lst
              refine ⟨k2.trans (k3.trans (k4.trans (k5.trans (k6.trans kk)))), ?_, l7, ?_, hf2⟩
              · rw [← m1]; exact preTake ((p2.trans (Pre.app A2 [D])).trans (p4.trans (p5.trans p6)))
              · have s8 := (r6.put pD (o := .lst (ws ++ [u])) (ob := .lst (acc' ++ [d])) ⟨_, upd_same, (r7.app (.cons q6 .nil)).keep kk⟩).take (S1.length + 1)
                have e1 : A6.take (S1.length + 1) = A6.take S1.length ++ [D] := take_snoc pD
                have hl6 := (List.getElem?_eq_some_iff.mp g7).1
                have e2 : (S6.set S1.length (.lst (acc' ++ [d]))).take (S1.length + 1) = S6.take S1.length ++ [.lst (acc' ++ [d])] := by
                  rw [take_snoc (List.getElem?_set_self hl6), List.take_set_of_le (Nat.le_refl _)]
                rw [e1, e2] at s8
                exact s8
          · cases hf2
        · cases hf2
      | false =>
        rw [if_neg Bool.false_ne_true]
        simp only [Bool.false_eq_true, if_false] at hf2
        obtain ⟨⟨S7, acc'⟩, e7, hf2⟩ := Option.bind_eq_some_iff.mp hf2
        obtain ⟨rfl, l7, g7⟩ := r5.unsnoc e7
        have pD := dAt (p4.trans p5)
        refine ⟨hlt, A5.take S1.length, S4.take S1.length, acc', k2.trans (k3.trans (k4.trans k5)), ?_, l7, ?_, hf2⟩
        · rw [← m1]; exact preTake ((p2.trans (Pre.app A2 [D])).trans (p4.trans p5))
        · have s8 := r5.take (S1.length + 1)
          rw [take_snoc pD, take_snoc g7] at s8
          exact s8
    · cases hf2
  · have e : i = xs.length := by omega
    subst e
    rw [List.drop_length] at hf2
    simp only [lcGo] at hf2
    split at hf2
    · next hgd =>
      cases hf2
      refine .inl ⟨J1.stop _ H2 _ _ k2 r2 gA (gG hgd) (Nat.le_refl _), ?_⟩
      exact hq _ H2 (A2 ++ [D]) (p1.trans (p2.trans (Pre.app A2 [D]))) (k1.trans k2) r2 (.loc (by rw [← l2, ← la]; simp))
    · cases hf2
theorem pv_lc {scope : Scope} {own : List (Str × Nat)} {ifs : List Expr} {wi : TI} {g : TG} {tt : TT} {fi : IF} {fg : GF} {ft : TF} (hc : X.calm = true) (hN : X.N.Nodup) (hi : PVI X tg it wi fi) (ok : BlkOk X.N X.env.scope scope own)
    (hg : ∀ (s : Shared) (H : Hp) (C : Addr) (cl : List (Str × Addr)) (fp : List Addr), PVG (X.blk s H scope (compEnvC scope cl C X.env) fp) tg g fg) (og : OwnG g (own.map (·.2)))
    (ht : ∀ (s : Shared) (H : Hp) (C : Addr) (cl : List (Str × Addr)) (fp : List Addr), PVTs (X.blk s H scope (compEnvC scope cl C X.env) fp) ifs tt ft)
    (he : ∀ (s : Shared) (H : Hp) (C : Addr) (cl : List (Str × Addr)) (fp : List Addr), PV (X.blk s H scope (compEnvC scope cl C X.env) fp) elt te fe) (s0 : Shared) (H0 : Hp) (hs : ∀ x, foldedSetIterable it X.env x = pure x := by intro _; rfl) :
    PV X (.ListComp elt [⟨tg, it, ifs, 0⟩] scope pos) (tLc wi g tt te (own.map (·.2))) (lcF fi fg ft fe (own.map (·.2))) :=
  ⟨pe_lc hc hN hi.pi ok (fun s H C cl fp => (hg s H C cl fp).pg) (fun s H C cl fp => (ht s H C cl fp).pt) (fun s H C cl fp => (he s H C cl fp).pe) hs,
    lc_ok hi.ok (hg s0 H0 0 [] []).ok og (ht s0 H0 0 [] []).ok (he s0 H0 0 [] []).ok⟩
/-- name = [..] on one line -/
theorem pvs_setLc (i : Nat) {y : Str} {py spos : Pos} {scope : Scope} {own : List (Str × Nat)} {ifs : List Expr} {wi : TI} {g : TG} {tt : TT} {fi : IF} {fg : GF} {ft : TF} (hc : X.calm = true) (hN : X.N.Nodup) (hyl : X.env.scope.names.lookup y = some .local)
    (hsw : swapsWith (.ListComp elt [⟨tg, it, ifs, 0⟩] scope pos) (some (.Name y py)) spos.line X.env = pure true) (hi : PVI X tg it wi fi) (ok : BlkOk X.N X.env.scope scope own)
    (hg : ∀ (s : Shared) (H : Hp) (C : Addr) (cl : List (Str × Addr)) (fp : List Addr), PVG (X.blk s H scope (compEnvC scope cl C X.env) fp) tg g fg) (og : OwnG g (own.map (·.2)))
    (ht : ∀ (s : Shared) (H : Hp) (C : Addr) (cl : List (Str × Addr)) (fp : List Addr), PVTs (X.blk s H scope (compEnvC scope cl C X.env) fp) ifs tt ft)
    (he : ∀ (s : Shared) (H : Hp) (C : Addr) (cl : List (Str × Addr)) (fp : List Addr), PV (X.blk s H scope (compEnvC scope cl C X.env) fp) elt te fe) (s0 : Shared) (H0 : Hp) (hy : X.N[i]? = some y := by rfl) (hs : ∀ x, foldedSetIterable it X.env x = pure x := by intro _; rfl) :
    PVS X (.Assign [.Name y py] (.ListComp elt [⟨tg, it, ifs, 0⟩] scope pos) spos) (tAsg (tLc wi g tt te (own.map (·.2))) (gName i)) (setS i (lcF fi fg ft fe (own.map (·.2)))) :=
  ⟨ps_setLc hc hN hy hyl hsw hi.pi ok (fun s H C cl fp => (hg s H C cl fp).pg) (fun s H C cl fp => (ht s H C cl fp).pt) (fun s H C cl fp => (he s H C cl fp).pe) hs,
    set_ok (lc_ok hi.ok (hg s0 H0 0 [] []).ok og (ht s0 H0 0 [] []).ok (he s0 H0 0 [] []).ok)⟩
end
end Pv
set_option maxHeartbeats 4000000
/-! Pv8: dicts, zip, what is walked of dicts. -/
namespace Pv
open PySem PySem.Spec PyProof.Rows L2

/-! ### dicts by data -/
def keyOf : D → Option Key
  | .int i => some (.inl i)
  | .str x => some (.inr x)
  | _ => none
def dK : Key → D
  | .inl i => .int i
  | .inr x => .str x
abbrev KD := List (Key × D)
def valD (kvs : KD) (k : Key) : Option D := (kvs.find? fun kv => decide (kv.1 = k)).map (·.2)
def putD (kvs : KD) (k : Key) (v : D) : KD := if (kvs.any fun kv => decide (kv.1 = k)) = true then kvs.map (fun kv => if kv.1 = k then (kv.1, v) else kv) else kvs ++ [(k, v)]
def dropD (kvs : KD) (k : Key) : KD := kvs.filter fun kv => decide (kv.1 ≠ k)
section
variable {K : PySem.W.Frag} {H : Hp} {A : List Addr} {S : Sto}
theorem keyOf_ok {v : V} {d : D} {k : Key} (r : Rp K H v d) (h : keyOf d = some k) : v = kV k := by
  cases r <;> cases h <;> rfl
theorem rp_key (k : Key) : Rp K H (kV k) (dK k) := by
  cases k with
  | inl i => exact .int i
  | inr x => exact .str x
theorem RKV.val {kv : List (Key × V)} {kvs : KD} (r : RKV K H kv kvs) (k : Key) : (valV kv k = none ∧ valD kvs k = none) ∨ ∃ v d, valV kv k = some v ∧ valD kvs k = some d ∧ Rp K H v d := by
  unfold valV valD
  induction r with
  | nil => exact .inl ⟨rfl, rfl⟩
  | @cons p q ps qs h t ih =>
    rw [List.find?_cons, List.find?_cons, ← h.1]
    by_cases e : p.1 = k
    · rw [decide_eq_true e]
      exact .inr ⟨_, _, rfl, rfl, h.2⟩
    · rw [decide_eq_false e]
      exact ih
theorem RKV.any {kv : List (Key × V)} {kvs : KD} (r : RKV K H kv kvs) (k : Key) : (kv.any fun z => decide (z.1 = k)) = (kvs.any fun z => decide (z.1 = k)) := by
  induction r with
  | nil => rfl
  | @cons p q ps qs h t ih => rw [List.any_cons, List.any_cons, ih, h.1]
theorem RKV.app {kv kv2 : List (Key × V)} {kvs kvs2 : KD} (r : RKV K H kv kvs) (r2 : RKV K H kv2 kvs2) : RKV K H (kv ++ kv2) (kvs ++ kvs2) := by
  induction r with
  | nil => exact r2
  | cons h t ih => exact .cons h ih
theorem RKV.put {kv : List (Key × V)} {kvs : KD} (r : RKV K H kv kvs) (k : Key) {v : V} {d : D} (q : Rp K H v d) : RKV K H (putK kv k v) (putD kvs k d) := by
  unfold putK putD
  rw [r.any]
  split
  · induction r with
    | nil => exact .nil
    | @cons p q' ps qs h t ih =>
      refine .cons ?_ ?_
      · show (if p.1 = k then (p.1, v) else p).1 = (if q'.1 = k then (q'.1, d) else q').1 ∧ Rp K H (if p.1 = k then (p.1, v) else p).2 (if q'.1 = k then (q'.1, d) else q').2
        rw [h.1]
        split
        · exact ⟨rfl, q⟩
        · exact h
      · have : ∀ {a : List (Key × V)} {b : KD}, RKV K H a b → RKV K H (a.map fun z => if z.1 = k then (z.1, v) else z) (b.map fun z => if z.1 = k then (z.1, d) else z) := fun {a b} z => by
          induction z with
          | nil => exact .nil
          | @cons p q' ps qs h t ih =>
            refine .cons ?_ ih
            show (if p.1 = k then (p.1, v) else p).1 = (if q'.1 = k then (q'.1, d) else q').1 ∧ Rp K H (if p.1 = k then (p.1, v) else p).2 (if q'.1 = k then (q'.1, d) else q').2
            rw [h.1]
            split
            · exact ⟨rfl, q⟩
            · exact h
        exact this t
  · exact r.app (.cons ⟨rfl, q⟩ .nil)
theorem RKV.drop {kv : List (Key × V)} {kvs : KD} (r : RKV K H kv kvs) (k : Key) : RKV K H (dropK kv k) (dropD kvs k) := by
  unfold dropK dropD
  induction r with
  | nil => exact .nil
  | @cons p q ps qs h t ih =>
    rw [List.filter_cons, List.filter_cons, h.1]
    split
    · exact .cons h ih
    · exact ih
theorem RKV.get {kv : List (Key × V)} {kvs : KD} (r : RKV K H kv kvs) : ∀ {i : Nat} {k : Key} {d : D}, kvs[i]? = some (k, d) → ∃ v, kv[i]? = some (k, v) ∧ Rp K H v d := by
  induction r with
  | nil => intro i k d h; simp at h
  | @cons p q ps qs h t ih =>
    intro i k d e
    cases i with
    | zero =>
      have : q = (k, d) := by simpa using e
      subst this
      obtain ⟨p1, p2⟩ := p
      have h1 : p1 = k := h.1
      subst h1
      exact ⟨p2, rfl, h.2⟩
    | succ i => exact ih (by simpa using e)
/-- a dict, locked or not -/
def dictOf (S : Sto) : T → Option KD
  | .loc n => match S[n]? with
    | some (.dic kvs) => some kvs
    | some (.lck kvs) => some kvs
    | _ => none
  | _ => none
theorem dictOf_ok {v : V} {t : T} {kvs : KD} (hs : RS K H A S) (r : Rt K H A v t) (h : dictOf S t = some kvs) : ∃ a kv, v = .ref a ∧ Rd H a (.dK kv) ∧ RKV K H kv kvs := by
  cases r with
  | p r => cases h
  | mix s r => cases h
  | ro s r => cases h
  | ft s d r => cases h
  | loc e =>
    simp only [dictOf] at h
    split at h
    · next q =>
      cases h
      obtain ⟨kv, h1, r1⟩ := hs.ob _ _ _ e q
      exact ⟨_, kv, rfl, .inl h1, r1⟩
    · next q =>
      cases h
      obtain ⟨o, kv, h1, r1⟩ := hs.ob _ _ _ e q
      exact ⟨_, kv, rfl, .inr ⟨o, h1⟩, r1⟩
    · cases h
theorem dget_of {v y : V} {t : T} {kvs : KD} {d : D} {k : Key} (hs : RS K H A S) (r : Rt K H A v t) (h : dictOf S t = some kvs) (ry : Rt K H A y (.p d)) (hk : keyOf d = some k) :
    ∃ a, v = .ref a ∧ IsD H a ∧ ((DGet H a y none ∧ valD kvs k = none) ∨ ∃ u e, DGet H a y (some u) ∧ valD kvs k = some e ∧ Rp K H u e) := by
  obtain ⟨a, kv, rfl, rd, rr⟩ := dictOf_ok hs r h
  cases ry with
  | p ry =>
    obtain rfl := keyOf_ok ry hk
    refine ⟨a, rfl, .inl ⟨kv, rd⟩, ?_⟩
    rcases rr.val k with ⟨h1, h2⟩ | ⟨u, e, h1, h2, q⟩
    · exact .inl ⟨.inl ⟨kv, k, rd, rfl, h1.symm⟩, h2⟩
    · exact .inr ⟨u, e, .inl ⟨kv, k, rd, rfl, h1.symm⟩, h2, q⟩
end
def keyT : T → Option Key
  | .p d => keyOf d
  | _ => none
theorem keyT_ok {t : T} {k : Key} (h : keyT t = some k) : ∃ d, t = .p d ∧ keyOf d = some k := by
  cases t with
  | p d => exact ⟨d, rfl, h⟩
  | loc n => cases h
  | mix ts => cases h
  | ro xs => cases h
  | ft xs => cases h
section
variable {X : Cx} {a b e c tg it o i kx vx : Expr} {es rest : List Expr} {ta tb te td ti tx tk tv : TE} {fa fb fe fd fi' fx fk fv : EF} {pos p2 : Pos} {t : TT} {f : TF} {tA : TA} {fA : AF}
/-- d[k] -/
def dgetF (fd fi : EF) : EF := fun env S => (fd env S).bind fun x => (fi env x.2).bind fun y => (dictOf y.2 x.1).bind fun kvs => (keyT y.1).bind fun k => (valD kvs k).map fun d => (.p d, y.2)
theorem pv_dget (hu : X.A.units + 1 < cLine) (ho : PV X o td fd) (hi : PV X i ti fi') (hs : NoSl i) : PV X (.Subscript o i pos) (tDGet td ti) (dgetF fd fi') := by
  refine ⟨pe_dget hu ho.pe hi.pe hs, ?_⟩
  intro σ H A env S v S' hE hS hf Q hq
  obtain ⟨⟨x, S1⟩, e1, hf⟩ := Option.bind_eq_some_iff.mp hf
  obtain ⟨⟨y, S2⟩, e2, hf⟩ := Option.bind_eq_some_iff.mp hf
  obtain ⟨kvs, e3, hf⟩ := Option.bind_eq_some_iff.mp hf
  obtain ⟨k, e4, hf⟩ := Option.bind_eq_some_iff.mp hf
  obtain ⟨d, e5, hf⟩ := Option.map_eq_some_iff.mp hf
  cases hf
  obtain ⟨dy, rfl, hk⟩ := keyT_ok e4
  refine ho.ok σ H A env S x S1 hE hS e1 _ fun u H1 A1 p1 k1 s1 r1 => ?_
  refine hi.ok σ H1 A1 env S1 _ _ (hE.keep k1 p1) s1 e2 _ fun u2 H2 A2 p2 k2 s2 r2 => ?_
  obtain ⟨a, rfl, _, h⟩ := dget_of s2 (r1.keep k2 p2) e3 r2 hk
  rcases h with ⟨_, h⟩ | ⟨w, e', g, h, q⟩
  · rw [h] at e5; cases e5
  · rw [h] at e5; cases e5
    exact ⟨a, w, rfl, g, hq _ H2 A2 (p1.trans p2) (k1.trans k2) s2 (.p q)⟩
/-- d.get(k, x) -/
def dgetxF (fd fi fx : EF) : EF := fun env S => (fd env S).bind fun x => (dictOf x.2 x.1).bind fun _ => (fi env x.2).bind fun y => (fx env y.2).bind fun z => (dictOf z.2 x.1).bind fun kvs => (keyT y.1).map fun k => match valD kvs k with
  | some d => (.p d, z.2)
  | none => (z.1, z.2)
theorem pv_dgetx {apos cpos : Pos} (hu : X.A.units + 1 < cLine) (ho : PV X o td fd) (hi : PV X i ti fi') (hx : PV X e tx fx) (m : M2 X o "get" apos i e cpos) : PV X (.Call (.Attribute o "get" apos) [i, e] [] cpos) (tDGet2 td ti tx) (dgetxF fd fi' fx) := by
  refine ⟨pe_dget2 hu ho.pe hi.pe hx.pe m, ?_⟩
  intro σ H A env S v S' hE hS hf Q hq
  obtain ⟨⟨x, S1⟩, e1, hf⟩ := Option.bind_eq_some_iff.mp hf
  obtain ⟨kvs0, e0, hf⟩ := Option.bind_eq_some_iff.mp hf
  obtain ⟨⟨y, S2⟩, e2, hf⟩ := Option.bind_eq_some_iff.mp hf
  obtain ⟨⟨z, S3⟩, e3, hf⟩ := Option.bind_eq_some_iff.mp hf
  obtain ⟨kvs, e4, hf⟩ := Option.bind_eq_some_iff.mp hf
  obtain ⟨k, e5, h9⟩ := Option.map_eq_some_iff.mp hf
  obtain ⟨dy, rfl, hk⟩ := keyT_ok e5
  refine ho.ok σ H A env S x S1 hE hS e1 _ fun u H1 A1 p1 k1 s1 r1 => ?_
  obtain ⟨a, kv, rfl, rd, rr⟩ := dictOf_ok s1 r1 e0
  refine ⟨a, rfl, .inl ⟨kv, rd⟩, ?_⟩
  refine hi.ok σ H1 A1 env S1 _ _ (hE.keep k1 p1) s1 e2 _ fun u2 H2 A2 p2 k2 s2 r2 => ?_
  refine hx.ok σ H2 A2 env S2 z S3 (hE.keep (k1.trans k2) (p1.trans p2)) s2 e3 _ fun u3 H3 A3 p3 k3 s3 r3 => ?_
  obtain ⟨a', ea, _, h⟩ := dget_of s3 (r1.keep (k2.trans k3) (p2.trans p3)) e4 (r2.keep k3 p3) hk
  cases ea
  rcases h with ⟨g, h⟩ | ⟨w, e', g, h, q⟩
  · rw [h] at h9; cases h9
    exact ⟨none, g, hq _ H3 A3 (p1.trans (p2.trans p3)) (k1.trans (k2.trans k3)) s3 r3⟩
  · rw [h] at h9; cases h9
    exact ⟨some w, g, hq _ H3 A3 (p1.trans (p2.trans p3)) (k1.trans (k2.trans k3)) s3 (.p q)⟩
/-- k in d, k not in d -/
def dinF (neg : Bool) (fi fd : EF) : EF := fun env S => (fi env S).bind fun y => (fd env y.2).bind fun x => (dictOf x.2 x.1).bind fun kvs => (keyT y.1).map fun k => (.p (.bool (if neg then !(valD kvs k).isSome else (valD kvs k).isSome)), x.2)
theorem din_ok {K : PySem.W.Frag} (hi : EOk K ti fi') (ho : EOk K td fd) : EOk K (tDIn ti td) (dinF false fi' fd) := by
  intro σ H A env S v S' hE hS hf Q hq
  obtain ⟨⟨y, S1⟩, e1, hf⟩ := Option.bind_eq_some_iff.mp hf
  obtain ⟨⟨x, S2⟩, e2, hf⟩ := Option.bind_eq_some_iff.mp hf
  obtain ⟨kvs, e3, hf⟩ := Option.bind_eq_some_iff.mp hf
  obtain ⟨k, e4, hf⟩ := Option.map_eq_some_iff.mp hf
  cases hf
  obtain ⟨dy, rfl, hk⟩ := keyT_ok e4
  refine hi σ H A env S _ S1 hE hS e1 _ fun u H1 A1 p1 k1 s1 r1 => ?_
  refine ho σ H1 A1 env S1 x _ (hE.keep k1 p1) s1 e2 _ fun u2 H2 A2 p2 k2 s2 r2 => ?_
  obtain ⟨a, rfl, _, h⟩ := dget_of s2 r2 e3 (r1.keep k2 p2) hk
  have fin : ∀ q : Bool, q = (valD kvs k).isSome → Q (.bl q) H2 := fun q e => by
    subst e; exact hq _ H2 A2 (p1.trans p2) (k1.trans k2) s2 (.p (.bl _))
  rcases h with ⟨g, h⟩ | ⟨w, e', g, h, q⟩
  · exact ⟨a, none, rfl, g, fin _ (by rw [h]; rfl)⟩
  · exact ⟨a, some w, rfl, g, fin _ (by rw [h]; rfl)⟩
theorem dnotin_ok {K : PySem.W.Frag} (hi : EOk K ti fi') (ho : EOk K td fd) : EOk K (tDNotIn ti td) (dinF true fi' fd) := by
  intro σ H A env S v S' hE hS hf Q hq
  obtain ⟨⟨y, S1⟩, e1, hf⟩ := Option.bind_eq_some_iff.mp hf
  obtain ⟨⟨x, S2⟩, e2, hf⟩ := Option.bind_eq_some_iff.mp hf
  obtain ⟨kvs, e3, hf⟩ := Option.bind_eq_some_iff.mp hf
  obtain ⟨k, e4, hf⟩ := Option.map_eq_some_iff.mp hf
  cases hf
  obtain ⟨dy, rfl, hk⟩ := keyT_ok e4
  refine hi σ H A env S _ S1 hE hS e1 _ fun u H1 A1 p1 k1 s1 r1 => ?_
  refine ho σ H1 A1 env S1 x _ (hE.keep k1 p1) s1 e2 _ fun u2 H2 A2 p2 k2 s2 r2 => ?_
  obtain ⟨a, rfl, _, h⟩ := dget_of s2 r2 e3 (r1.keep k2 p2) hk
  have fin : ∀ q : Bool, q = (!(valD kvs k).isSome) → Q (.bl q) H2 := fun q e => by
    subst e; exact hq _ H2 A2 (p1.trans p2) (k1.trans k2) s2 (.p (.bl _))
  rcases h with ⟨g, h⟩ | ⟨w, e', g, h, q⟩
  · exact ⟨a, none, rfl, g, fin _ (by rw [h]; rfl)⟩
  · exact ⟨a, some w, rfl, g, fin _ (by rw [h]; rfl)⟩
theorem pv_din (hu : X.A.units + 1 < cLine) (hi : PV X i ti fi') (ho : PV X o td fd) (hm : behindInMarks .In o = false := by rfl) : PV X (.Compare i [.In] [o] pos) (tDIn ti td) (dinF false fi' fd) := ⟨pe_cmp (pc_din hu hi.pe ho.pe) hm, din_ok hi.ok ho.ok⟩
theorem pvt_din (hu : X.A.units + 1 < cLine) (hi : PV X i ti fi') (ho : PV X o td fd) (hm : behindInMarks .In o = false := by rfl) : PVT X (.Compare i [.In] [o] pos) (tB (tDIn ti td)) (asT (dinF false fi' fd)) := ⟨pt_cmp (pc_din hu hi.pe ho.pe) hm, asT_ok (din_ok hi.ok ho.ok)⟩
theorem pvt_dnotin (hu : X.A.units + 1 < cLine) (hi : PV X i ti fi') (ho : PV X o td fd) (hm : behindInMarks .NotIn o = false := by rfl) : PVT X (.Compare i [.NotIn] [o] pos) (tB (tDNotIn ti td)) (asT (dinF true fi' fd)) := ⟨pt_cmp (pc_dnotin hu hi.pe ho.pe) hm, asT_ok (dnotin_ok hi.ok ho.ok)⟩
/-- d[k] = v -/
def dputS (fd fi fv : EF) : SF := fun _ env S => (fv env S).bind fun v => (fd env v.2).bind fun o => (fi env o.2).bind fun i => match v.1, o.1 with
  | .p d, .loc n => match i.2[n]? with
    | some (.dic kvs) => (keyT i.1).bind fun k => if kvs.length < sizeLine then some (.nx, env, (i.2.set n (.dic (putD kvs k d))).take S.length) else none
    | _ => none
  | _, _ => none
theorem pvs_dput {pos' : Pos} (hu : X.A.units + 1 < cLine) (ho : PV X o td fd) (hi : PV X i ti fi') (hv : PV X e tv fv) (hs : swapsWith e (some (.Subscript o i pos')) pos.line X.env = pure false := by rfl) : PVS X (.Assign [.Subscript o i pos'] e pos) (sDPut td ti tv) (dputS fd fi' fv) := by
  refine ⟨ps_dput hu ho.pe hi.pe hv.pe hs, ?_⟩
  intro n σ H A env S oo env' S' hn hE hS hf D hD
  obtain ⟨⟨x, S1⟩, e1, hf⟩ := Option.bind_eq_some_iff.mp hf
  obtain ⟨⟨y, S2⟩, e2, hf⟩ := Option.bind_eq_some_iff.mp hf
  obtain ⟨⟨z, S3⟩, e3, hf⟩ := Option.bind_eq_some_iff.mp hf
  refine hv.ok σ H A env S x S1 hE hS e1 _ fun u H1 A1 p1 k1 s1 r1 => ?_
  refine ho.ok σ H1 A1 env S1 y S2 (hE.keep k1 p1) s1 e2 _ fun u2 H2 A2 p2 k2 s2 r2 => ?_
  refine hi.ok σ H2 A2 env S2 z S3 (hE.keep (k1.trans k2) (p1.trans p2)) s2 e3 _ fun u3 H3 A3 p3 k3 s3 r3 => ?_
  simp only at hf
  split at hf
  · split at hf
    · next kvs q =>
      obtain ⟨k, e4, hf⟩ := Option.bind_eq_some_iff.mp hf
      split at hf
      · next hz =>
        cases hf
        obtain ⟨dy, rfl, hk⟩ := keyT_ok e4
        obtain ⟨pa, rfl, e5⟩ := (r2.keep k3 p3).locOf
        obtain ⟨kv, h6, r6⟩ := s3.ob _ _ _ e5 q
        cases r3 with
        | p r3 =>
          obtain rfl := keyOf_ok r3 hk
          cases r1 with
          | p r1 =>
            have kk := Keep.put (o' := .dK (putK kv k u)) h6 free_dK
            refine ⟨pa, _, rfl, DPut.k h6 (by rw [Paired.length r6]; exact hz), ?_⟩
            have s4 : RS X.K (upd H3 pa (.dK (putK kv k u))) A3 (S3.set _ (.dic (putD kvs k _))) := s3.put e5 ⟨_, upd_same, (r6.put k (r1.keep (k2.trans k3))).keep kk⟩
            have pA := p1.trans (p2.trans p3)
            have pT : Pre A (A3.take S.length) := by rw [← hS.len]; exact preTake pA
            exact hD _ _ (pT.sameTo n) (k1.trans (k2.trans (k3.trans kk))) (s4.take _) σ (hE.keep (k1.trans (k2.trans (k3.trans kk))) pT)
      · cases hf
    · cases hf
  · cases hf
/-- {} -/
def dnewF : EF := fun _ S => some (.loc S.length, S ++ [.dic []])
theorem dnew_ok {K : PySem.W.Frag} : EOk K tDNewK dnewF := fun σ H A env S v S' hE hS hf Q hq p hp => by
  cases hf
  exact hq _ _ _ (Pre.app A [p]) (Keep.new hp) (hS.push hp ⟨_, upd_same, .nil⟩) (.loc (by rw [← hS.len]; simp))
theorem pv_dnew : PV X (.Dict [] [] pos) tDNewK dnewF := ⟨pe_dnewK, dnew_ok⟩
/-! ### a dict is locked while it is walked -/
def lockF (i : Nat) (f : EF) : EF := fun env S => match env[i]? with
  | some (some (.loc n)) => match S[n]? with
    | some (.dic kvs) => (f env (S.set n (.lck kvs))).bind fun x => match x.2[n]? with
      | some (.lck kvs') => some (x.1, x.2.set n (.dic kvs'))
      | _ => none
    | _ => none
  | _ => none
theorem pv_lock (j : Nat) (h : PV X e te fe) : PV X e (tLockE te) (lockF j fe) := by
  refine ⟨pe_lock h.pe, ?_⟩
  intro σ H A env S v S' hE hS hf Q hq
  unfold lockF at hf
  split at hf
  · next n hj =>
    split at hf
    · next kvs q =>
      obtain ⟨⟨x, S1⟩, e1, hf⟩ := Option.bind_eq_some_iff.mp hf
      obtain ⟨v0, _, r0⟩ := hE.2 _ _ hj
      obtain ⟨a, rfl, ea⟩ := r0.locOf
      obtain ⟨kv, ha, r⟩ := hS.ob _ _ _ ea q
      refine ⟨a, .dK kv, ha, trivial, fun od => ?_⟩
      have k0 := Keep.put (o' := .frz od (.dK kv)) ha free_dK
      have s0 : RS X.K (upd H a (.frz od (.dK kv))) A (S.set n (.lck kvs)) := hS.put ea ⟨od, kv, upd_same, r.keep k0⟩
      refine h.ok σ _ A env _ x S1 (hE.keep k0 (Pre.refl A)) s0 e1 _ fun u H1 A1 p1 k1 s1 r1 => ?_
      simp only at hf
      split at hf
      · next kvs' q' =>
        cases hf
        have ha1 := k1.frd a od kv upd_same
        obtain ⟨od', kv', ha', r'⟩ := s1.ob _ _ _ (p1 _ _ ea) q'
        rw [ha1] at ha'
        cases ha'
        refine ⟨ha1, ?_⟩
        -- behind the lock
        have kT : KeepT H1 (upd H1 a (.dK kv)) := KeepT.put ha1 free_lck
        have kF : Keep H (upd H1 a (.dK kv)) := by
          refine ⟨(k0.toKeepT.trans k1.toKeepT).trans kT, fun b o' xs e => ?_⟩
          have nb : b ≠ a := fun z => by subst z; rw [ha] at e; cases e
          rw [upd_ne nb]
          exact k1.frd b o' xs (by rw [upd_ne nb]; exact e)
        have s2 : RS X.K (upd H1 a (.dK kv)) A1 (S1.set n (.dic kvs')) := s1.put (p1 _ _ ea) ⟨kv, upd_same, r'.keepT kT⟩
        exact hq u _ A1 p1 kF s2 (r1.keepT kT (Pre.refl _))
      · cases hf
    · cases hf
  · cases hf
end
end Pv
set_option maxHeartbeats 4000000
/-! Pv9: zip, dicts walked, dict comprehensions, dicts of pairs, powers, products. -/
namespace Pv
open PySem PySem.Spec PyProof.Rows L2

section
variable {X : Cx} {a b e c tg it o i kx vx : Expr} {es rest elts : List Expr} {ta tb te td ti tx tk tv : TE} {fa fb fe fd fi' fx fk fv : EF} {pos p p2 tpos : Pos} {t : TT} {f : TF} {tA : TA} {fA : AF} {kk : Nat}
/-! ### zip of two lists, of two tuples -/
def zipD (xs ys : List D) : List D := (xs.zip ys).map fun p => .tuple [p.1, p.2]
def isTupT : T → Bool
  | .p (.tuple _) => true
  | _ => false
/-- a list that is walked must stay -/
def seqG (S : Sto) : T → Option (List D × Gd)
  | .p (.tuple ds) => some (ds, [])
  | .ro xs => some (xs, [])
  | .loc n => match S[n]? with
    | some (.lst xs) => some (xs, [(n, .lst xs)])
    | _ => none
  | _ => none
def zipI (fA : AF) : IF := fun env S => (fA env S).bind fun x => match x.1 with
  | [a, b] => if isTupT a = isTupT b then (seqG x.2 a).bind fun u => (seqG x.2 b).map fun v => (zipD u.1 v.1, u.2 ++ v.2, x.2) else none
  | _ => none
/-- the walked thing stands as it stood -/
structure SqG (K : PySem.W.Frag) (H1 : Hp) (A1 : List Addr) (a : Addr) (ds : List D) (gd : Gd) : Prop where
  lt : ∀ p ∈ gd, p.1 < A1.length
  sq : ∀ (H : Hp) (A : List Addr) (S : Sto), Keep H1 H → RS K H A S → (∀ p ∈ gd, A[p.1]? = A1[p.1]?) → GdOk gd S → ∃ vs, SqL K H a vs ∧ Rps K H vs ds
theorem seqG_list {K : PySem.W.Frag} {H1 : Hp} {A1 : List Addr} {S1 : Sto} {v : V} {t : T} {ds : List D} {gd : Gd} (hs : RS K H1 A1 S1) (r : Rt K H1 A1 v t) (ht : isTupT t = false) (h : seqG S1 t = some (ds, gd)) : ∃ a, v = .ref a ∧ SqG K H1 A1 a ds gd := by
  cases r with
  | p r =>
    cases r with
    | tup s r => cases ht
    | _ => cases h
  | mix s r => cases h
  | ft s d r => cases h
  | ro s r =>
    cases h
    exact ⟨_, rfl, fun p h => by simp at h, fun H A S k _ _ _ => ⟨_, (k.rol s).sql, r.keep k⟩⟩
  | @loc n a e =>
    simp only [seqG] at h
    split at h
    · next xs q =>
      cases h
      refine ⟨a, rfl, fun p h => ?_, fun H A S k s hA hG => ?_⟩
      · rcases List.mem_cons.mp h with h | h
        · rw [h]; exact (List.getElem?_eq_some_iff.mp e).1
        · simp at h
      · obtain ⟨vs, h2, r⟩ := s.lstOf ((hA _ List.mem_cons_self).trans e) (hG _ List.mem_cons_self)
        exact ⟨vs, SqL.of h2, r⟩
    · cases h
theorem zipD_get {xs ys : List D} {i : Nat} {d : D} (h : (zipD xs ys)[i]? = some d) : ∃ x y, xs[i]? = some x ∧ ys[i]? = some y ∧ d = .tuple [x, y] := by
  unfold zipD at h
  rw [List.getElem?_map] at h
  cases g : (xs.zip ys)[i]? with
  | none => rw [g] at h; cases h
  | some q =>
    rw [g] at h
    have e : PyData.tuple [q.1, q.2] = d := Option.some.inj h
    obtain ⟨h1, h2⟩ := List.getElem?_zip_eq_some.mp g
    exact ⟨q.1, q.2, h1, h2, e.symm⟩
theorem zipD_len {xs ys : List D} {i : Nat} (h : (zipD xs ys).length ≤ i) : xs.length ≤ i ∨ ys.length ≤ i := by
  simp [zipD] at h
  omega
theorem pvi_zip (hg : Gl X "zip") (hm : X.mg "zip" = none) (ha : PVA X [a, b] tA fA) (hs : starEach [a, b] X.env = (false, eval a X.env) :: starEach [b] X.env := by rfl) (hpl : (backTo pos (starEach [b] X.env)).any (·.1) = false := by rfl) :
    PVI X (.Tuple elts kk tpos) (.Call (.Name "zip" p) [a, b] [] pos) (RZ.iZipA X.K tA) (zipI fA) := by
  refine ⟨RZ.pi_zipA hg hm ha.pa hs hpl, ?_⟩
  intro σ H A env S xs gd S' hE hS hf R hR
  obtain ⟨⟨x, S1⟩, e1, hf⟩ := Option.bind_eq_some_iff.mp hf
  refine ha.ok σ H A env S x S1 hE hS e1 _ fun us H1 A1 p1 k1 s1 r1 => ?_
  simp only at hf
  split at hf
  · next ta tb =>
    split at hf
    · next hty =>
      obtain ⟨⟨da, ga⟩, e2, hf⟩ := Option.bind_eq_some_iff.mp hf
      obtain ⟨⟨db, gb⟩, e3, hf⟩ := Option.map_eq_some_iff.mp hf
      cases hf
      obtain ⟨va, vb, rfl, ra, rb⟩ := r1.two
      cases hta : isTupT ta with
      | false =>
        obtain ⟨aa, rfl, qa⟩ := seqG_list s1 ra hta e2
        obtain ⟨ab, rfl, qb⟩ := seqG_list s1 rb (hty ▸ hta) e3
        obtain ⟨wa, sa, _⟩ := qa.sq H1 A1 _ (Keep.refl _) s1 (fun _ _ => rfl) (fun p hp => by
          cases ra with
          | loc e => simp only [seqG] at e2; split at e2 <;> cases e2; rcases List.mem_cons.mp hp with h | h; (rw [h]; assumption); simp at h
          | ro => cases e2; simp at hp
          | mix => cases e2
          | ft => cases e2
          | p r => cases r <;> first | cases hta | cases e2)
        obtain ⟨wb, sb, _⟩ := qb.sq H1 A1 _ (Keep.refl _) s1 (fun _ _ => rfl) (fun p hp => by
          cases rb with
          | loc e => simp only [seqG] at e3; split at e3 <;> cases e3; rcases List.mem_cons.mp hp with h | h; (rw [h]; assumption); simp at h
          | ro => cases e3; simp at hp
          | mix => cases e3
          | ft => cases e3
          | p r => cases r <;> first | (rw [hta] at hty; cases hty) | cases e3)
        refine ⟨aa, ab, wa, wb, rfl, .inl ⟨sa, sb, hR _ H1 A1 p1 k1 s1 (fun p hp => ?_) ⟨fun i H2 A2 S2 d k2 s2 hA hG hd => ?_, fun i H2 A2 S2 k2 s2 hA hG hl => ?_⟩⟩⟩
        · rcases List.mem_append.mp hp with h | h
          · exact qa.lt p h
          · exact qb.lt p h
        · obtain ⟨u, su, ru⟩ := qa.sq H2 A2 S2 k2 s2 (fun p hp => hA p (List.mem_append_left _ hp)) fun p hp => hG p (List.mem_append_left _ hp)
          obtain ⟨w, sw, rw'⟩ := qb.sq H2 A2 S2 k2 s2 (fun p hp => hA p (List.mem_append_right _ hp)) fun p hp => hG p (List.mem_append_right _ hp)
          obtain ⟨dx, dy, hx, hy, rfl⟩ := zipD_get hd
          obtain ⟨vx, ex, rx⟩ := ru.get hx
          obtain ⟨vy, ey, ry⟩ := rw'.get hy
          refine ⟨⟨u, w, vx, vy, su, sw, ex, ey⟩, fun y H3 hy' => ?_⟩
          obtain ⟨z, x', y', rfl, hz, rfl, f1, f2⟩ := hy'
          have g1 := f1 u su
          have g2 := f2 w sw
          rw [ex] at g1; rw [ey] at g2
          cases g1; cases g2
          exact ⟨Keep.new hz, s2.new hz, .tup (SqT.of upd_same) ((Rps.cons rx (.cons ry .nil)).keep (Keep.new hz))⟩
        · obtain ⟨u, su, ru⟩ := qa.sq H2 A2 S2 k2 s2 (fun p hp => hA p (List.mem_append_left _ hp)) fun p hp => hG p (List.mem_append_left _ hp)
          obtain ⟨w, sw, rw'⟩ := qb.sq H2 A2 S2 k2 s2 (fun p hp => hA p (List.mem_append_right _ hp)) fun p hp => hG p (List.mem_append_right _ hp)
          refine ⟨u, w, su, sw, ?_⟩
          rw [ru.length, rw'.length]
          exact zipD_len hl
      | true =>
        obtain ⟨xa, rfl⟩ : ∃ xa, ta = .p (.tuple xa) := by
          unfold isTupT at hta; split at hta
          · exact ⟨_, rfl⟩
          · cases hta
        rw [hta] at hty
        obtain ⟨xb, rfl⟩ : ∃ xa, tb = .p (.tuple xa) := by
          have hty := hty.symm
          unfold isTupT at hty; split at hty
          · exact ⟨_, rfl⟩
          · cases hty
        cases e2; cases e3
        obtain ⟨aa, wa, rfl, sa, ra⟩ := ra.tupOf
        obtain ⟨ab, wb, rfl, sb, rb⟩ := rb.tupOf
        refine ⟨aa, ab, wa, wb, rfl, .inr ⟨sa, sb, hR _ H1 A1 p1 k1 s1 (fun p hp => by simp at hp) ⟨fun i H2 A2 S2 d k2 s2 hA hG hd => ?_, fun i H2 A2 S2 k2 s2 hA hG hl => ?_⟩⟩⟩
        · obtain ⟨dx, dy, hx, hy, rfl⟩ := zipD_get hd
          obtain ⟨vx, ex, rx⟩ := (ra.keep k2).get hx
          obtain ⟨vy, ey, ry⟩ := (rb.keep k2).get hy
          have su := k2.sqt (K := X.K) sa
          have sw := k2.sqt (K := X.K) sb
          refine ⟨⟨wa, wb, vx, vy, su, sw, ex, ey⟩, fun y H3 hy' => ?_⟩
          obtain ⟨z, x', y', rfl, hz, rfl, f1, f2⟩ := hy'
          have g1 := f1 wa su
          have g2 := f2 wb sw
          rw [ex] at g1; rw [ey] at g2
          cases g1; cases g2
          exact ⟨Keep.new hz, s2.new hz, .tup (SqT.of upd_same) ((Rps.cons rx (.cons ry .nil)).keep (Keep.new hz))⟩
        · refine ⟨wa, wb, k2.sqt sa, k2.sqt sb, ?_⟩
          rw [ra.length, rb.length]
          exact zipD_len hl
    · cases hf
  · cases hf

/-! ### the keys, the values, the pairs of a locked dict -/
def lckOf (S : Sto) : T → Option (Nat × KD)
  | .loc n => match S[n]? with
    | some (.lck kvs) => some (n, kvs)
    | _ => none
  | _ => none
theorem lckOf_ok {K : PySem.W.Frag} {H : Hp} {A : List Addr} {S : Sto} {v : V} {t : T} {n : Nat} {kvs : KD} (hs : RS K H A S) (r : Rt K H A v t) (h : lckOf S t = some (n, kvs)) : ∃ a o kv, v = .ref a ∧ A[n]? = some a ∧ H a = some (.frz o (.dK kv)) ∧ RKV K H kv kvs ∧ S[n]? = some (.lck kvs) := by
  cases r with
  | p r => cases h
  | mix s r => cases h
  | ro s r => cases h
  | ft s d r => cases h
  | loc e =>
    simp only [lckOf] at h
    split at h
    · next q =>
      cases h
      obtain ⟨o, kv, h1, r1⟩ := hs.ob _ _ _ e q
      exact ⟨_, o, kv, rfl, e, h1, r1, q⟩
    · cases h
def keysI (fe : EF) : IF := fun env S => (fe env S).bind fun x => (lckOf x.2 x.1).map fun q => (q.2.map fun z => dK z.1, [(q.1, .lck q.2)], x.2)
theorem gd1 {A1 : List Addr} {n : Nat} {ob : O} {a : Addr} (e : A1[n]? = some a) : ∀ p ∈ [(n, ob)], p.1 < A1.length := fun p h => by
  rcases List.mem_cons.mp h with h | h
  · rw [h]; exact (List.getElem?_eq_some_iff.mp e).1
  · simp at h
theorem pvi_keys (he : PV X e te fe) : PVI X tg e (iKeys te) (keysI fe) := by
  refine ⟨pi_keys he.pe, ?_⟩
  intro σ H A env S xs gd S' hE hS hf R hR
  obtain ⟨⟨x, S1⟩, e1, hf⟩ := Option.bind_eq_some_iff.mp hf
  obtain ⟨⟨n, kvs⟩, e2, hf⟩ := Option.map_eq_some_iff.mp hf
  cases hf
  refine he.ok σ H A env S x _ hE hS e1 _ fun u H1 A1 p1 k1 s1 r1 => ?_
  obtain ⟨a, ob, kv, rfl, ea, ha, rr, hS1⟩ := lckOf_ok s1 r1 e2
  refine ⟨a, ob, rfl, .inl ⟨kv, ha, hR _ H1 A1 p1 k1 s1 (gd1 ea) ⟨fun i H2 A2 S2 d k2 s2 hA hG hd => ?_, fun i H2 A2 S2 k2 s2 hA hG hl => ?_⟩⟩⟩
  · have h2 := k2.frd a ob kv ha
    rw [List.getElem?_map] at hd
    cases g : kvs[i]? with
    | none => rw [g] at hd; cases hd
    | some q =>
      rw [g] at hd
      have ed : dK q.1 = d := Option.some.inj hd
      subst ed
      obtain ⟨v, ev, _⟩ := rr.get (k := q.1) (d := q.2) g
      refine ⟨⟨h2, (List.getElem?_eq_some_iff.mp ev).1⟩, fun y H3 hy => ?_⟩
      obtain ⟨rfl, k, v', ek, rfl⟩ := hy
      rw [ev] at ek; cases ek
      exact ⟨Keep.refl _, s2, rp_key _⟩
  · exact ⟨k2.frd a ob kv ha, by rw [Paired.length rr]; simpa using hl⟩
def valsI (fe : EF) : IF := fun env S => (fe env S).bind fun x => (lckOf x.2 x.1).map fun q => (q.2.map fun z => z.2, [(q.1, .lck q.2)], x.2)
theorem pvi_vals {apos cpos : Pos} (he : PV X e te fe) (hbase : attributeBase e "values" X.env (eval e X.env) = eval e X.env := by rfl) (hline : (apos.endLine == cpos.line) = true := by rfl) : PVI X tg (.Call (.Attribute e "values" apos) [] [] cpos) (iVals te) (valsI fe) := by
  refine ⟨pi_values he.pe hbase hline, ?_⟩
  intro σ H A env S xs gd S' hE hS hf R hR
  obtain ⟨⟨x, S1⟩, e1, hf⟩ := Option.bind_eq_some_iff.mp hf
  obtain ⟨⟨n, kvs⟩, e2, hf⟩ := Option.map_eq_some_iff.mp hf
  cases hf
  refine he.ok σ H A env S x _ hE hS e1 _ fun u H1 A1 p1 k1 s1 r1 => ?_
  obtain ⟨a, ob, kv, rfl, ea, ha, rr, hS1⟩ := lckOf_ok s1 r1 e2
  refine ⟨a, ob, kv, rfl, ha, hR _ H1 A1 p1 k1 s1 (gd1 ea) ⟨fun i H2 A2 S2 d k2 s2 hA hG hd => ?_, fun i H2 A2 S2 k2 s2 hA hG hl => ?_⟩⟩
  · have h2 := k2.frd a ob kv ha
    rw [List.getElem?_map] at hd
    cases g : kvs[i]? with
    | none => rw [g] at hd; cases hd
    | some q =>
      rw [g] at hd
      have ed : q.2 = d := Option.some.inj hd
      subst ed
      obtain ⟨v, ev, rv⟩ := rr.get (k := q.1) (d := q.2) g
      refine ⟨⟨h2, (List.getElem?_eq_some_iff.mp ev).1⟩, fun y H3 hy => ?_⟩
      obtain ⟨rfl, k, ek⟩ := hy
      rw [ev] at ek; cases ek
      exact ⟨Keep.refl _, s2, rv.keep k2⟩
  · exact ⟨k2.frd a ob kv ha, by rw [Paired.length rr]; simpa using hl⟩
def itemsI (fe : EF) : IF := fun env S => (fe env S).bind fun x => (lckOf x.2 x.1).map fun q => (q.2.map fun z => .tuple [dK z.1, z.2], [(q.1, .lck q.2)], x.2)
theorem pvi_items {apos cpos : Pos} (he : PV X e te fe) (hbase : attributeBase e "items" X.env (eval e X.env) = eval e X.env := by rfl) (hline : (apos.endLine == cpos.line) = true := by rfl) : PVI X (.Tuple elts kk tpos) (.Call (.Attribute e "items" apos) [] [] cpos) (iItems te) (itemsI fe) := by
  refine ⟨pi_items he.pe hbase hline, ?_⟩
  intro σ H A env S xs gd S' hE hS hf R hR
  obtain ⟨⟨x, S1⟩, e1, hf⟩ := Option.bind_eq_some_iff.mp hf
  obtain ⟨⟨n, kvs⟩, e2, hf⟩ := Option.map_eq_some_iff.mp hf
  cases hf
  refine he.ok σ H A env S x _ hE hS e1 _ fun u H1 A1 p1 k1 s1 r1 => ?_
  obtain ⟨a, ob, kv, rfl, ea, ha, rr, hS1⟩ := lckOf_ok s1 r1 e2
  refine ⟨a, ob, kv, rfl, ha, hR _ H1 A1 p1 k1 s1 (gd1 ea) ⟨fun i H2 A2 S2 d k2 s2 hA hG hd => ?_, fun i H2 A2 S2 k2 s2 hA hG hl => ?_⟩⟩
  · have h2 := k2.frd a ob kv ha
    rw [List.getElem?_map] at hd
    cases g : kvs[i]? with
    | none => rw [g] at hd; cases hd
    | some q =>
      rw [g] at hd
      have ed : PyData.tuple [dK q.1, q.2] = d := Option.some.inj hd
      subst ed
      obtain ⟨v, ev, rv⟩ := rr.get (k := q.1) (d := q.2) g
      refine ⟨⟨h2, (List.getElem?_eq_some_iff.mp ev).1⟩, fun y H3 hy => ?_⟩
      obtain ⟨z, k, v', ek, rfl, hz, rfl⟩ := hy
      rw [ev] at ek; cases ek
      exact ⟨Keep.new hz, s2.new hz, .tup (SqT.of upd_same) ((Rps.cons (rp_key _) (.cons (rv.keep k2) .nil)).keep (Keep.new hz))⟩
  · exact ⟨k2.frd a ob kv ha, by rw [Paired.length rr]; simpa using hl⟩
end
end Pv
set_option maxHeartbeats 4000000
/-! Pv10: dict comprehensions, dict of pairs, powers and products, list of a range. -/
namespace Pv
open PySem PySem.Spec PyProof.Rows L2

section
variable {X : Cx} {a b e c tg it o i kx vx : Expr} {es rest elts : List Expr} {ta tb te td ti tx tk tv : TE} {fa fb fe fd fi' fx fk fv : EF} {pos p p2 tpos : Pos} {t : TT} {f : TF} {tA : TA} {fA : AF} {kk : Nat}
/-! ### dict comprehensions -/
def unsnocD (m : Nat) (S : Sto) : Option (Sto × KD) := match S[m]? with
  | some (.dic xs) => some (S.take m, xs)
  | _ => none
theorem unsnocD_app {m : Nat} {S : Sto} {xs : KD} (h : S.length = m) : unsnocD m (S ++ [.dic xs]) = some (S, xs) := by
  subst h
  simp [unsnocD]
theorem unsnocD_ok {S S' : Sto} {m : Nat} {xs : KD} (h : unsnocD m S = some (S', xs)) : S' = S.take m ∧ S'.length = m ∧ S[m]? = some (.dic xs) := by
  unfold unsnocD at h
  split at h
  · next ys q =>
    cases h
    have := (List.getElem?_eq_some_iff.mp q).1
    exact ⟨rfl, by rw [List.length_take]; omega, q⟩
  · cases h
open Classical in
noncomputable def dcGo (g : GF) (ft : TF) (fk fv : EF) (env : Env) (m : Nat) (gd : Gd) : List D → KD → Sto → Option (KD × Sto)
  | [], acc, S => if GdOk gd S then some (acc, S) else none
  | x :: xs, acc, S => if GdOk gd S then (g (.p x) env (S ++ [.dic acc])).bind fun y => (ft y.1 y.2).bind fun b => if b.1 = true then
      (fk y.1 b.2).bind fun q => (fv y.1 q.2).bind fun z => match z.1 with
        | .p d => (keyT q.1).bind fun k => (unsnocD m z.2).bind fun w => if w.2.length < sizeLine then dcGo g ft fk fv env m gd xs (putD w.2 k d) w.1 else none
        | _ => none
      else (unsnocD m b.2).bind fun w => dcGo g ft fk fv env m gd xs w.2 w.1 else none
noncomputable def dcF (fi : IF) (g : GF) (ft : TF) (fk fv : EF) (vs : List Nat) : EF := fun env S => (fi env S).bind fun it => (dcGo g ft fk fv (wipeE env vs) it.2.2.length it.2.1 it.1 [] it.2.2).map fun z => (.loc it.2.2.length, z.2 ++ [.dic z.1])
theorem dc_ok {K : PySem.W.Frag} {wi : TI} {g : TG} {tt : TT} {fi : IF} {fg : GF} {ft : TF} {vs : List Nat} (hi : IOk K wi fi) (hg : GOk K g fg) (og : OwnG g vs) (ht : TOk K tt ft) (hk : EOk K tk fk) (he : EOk K tv fv) : EOk K (tDc wi g tt tk tv vs) (dcF fi fg ft fk fv vs) := by
  intro σ H A env S v S' hE hS hf Q hq
  obtain ⟨⟨xs, gd, S1⟩, e1, hf⟩ := Option.bind_eq_some_iff.mp hf
  obtain ⟨⟨fin, S9⟩, e2, hf⟩ := Option.map_eq_some_iff.mp hf
  cases hf
  refine hi σ H A env S xs gd S1 hE hS e1 _ fun J H1 A1 p1 k1 r1 gl J1 => ?_
  intro D hD
  have kD : Keep H1 (upd H1 D (.dK [])) := Keep.new hD
  have m1 : A1.length = S1.length := r1.len
  refine ⟨fun i m H2 => m = xs.length - i ∧ i ≤ xs.length ∧ ∃ A2 S2 acc, Keep H1 H2 ∧ Pre A1 A2 ∧ S2.length = S1.length ∧ RS K H2 (A2 ++ [D]) (S2 ++ [.dic acc]) ∧ dcGo fg ft fk fv (wipeE env vs) S1.length gd (xs.drop i) acc S2 = some (fin, S9),
    ⟨xs.length, by simp, Nat.zero_le _, A1, S1, [], kD, Pre.refl _, rfl, r1.push hD (ob := .dic []) ⟨_, upd_same, .nil⟩, e2⟩, ?_⟩
  rintro i m H2 ⟨rfl, hil, A2, S2, acc, k2, p2, l2, r2, hf2⟩
  have la : A2.length = S2.length := by have := r2.len; simp at this; exact this
  have gA : ∀ p ∈ gd, (A2 ++ [D])[p.1]? = A1[p.1]? := fun p hp => by
    have h1 := gl p hp
    rw [(p2.trans (Pre.app A2 [D])) p.1 _ (List.getElem?_eq_getElem h1), List.getElem?_eq_getElem h1]
  have gG : GdOk gd S2 → GdOk gd (S2 ++ [.dic acc]) := fun h p hp => by
    rw [List.getElem?_append_left (List.getElem?_eq_some_iff.mp (h p hp)).1]
    exact h p hp
  by_cases hlt : i < xs.length
  · have hx : xs[i]? = some xs[i] := List.getElem?_eq_getElem hlt
    rw [List.drop_eq_getElem_cons hlt] at hf2
    simp only [dcGo] at hf2
    split at hf2
    · next hgd =>
      obtain ⟨⟨env3, S3⟩, e3, hf2⟩ := Option.bind_eq_some_iff.mp hf2
      obtain ⟨⟨b, S4⟩, e4, hf2⟩ := Option.bind_eq_some_iff.mp hf2
      obtain ⟨go, yl⟩ := J1.go i H2 (A2 ++ [D]) (S2 ++ [.dic acc]) xs[i] k2 r2 gA (gG hgd) hx
      refine .inr ⟨go, fun H' => i + 1 ≤ xs.length ∧ ∃ A2 S2 acc, Keep H1 H' ∧ Pre A1 A2 ∧ S2.length = S1.length ∧ RS K H' (A2 ++ [D]) (S2 ++ [.dic acc]) ∧ dcGo fg ft fk fv (wipeE env vs) S1.length gd (xs.drop (i + 1)) acc S2 = some (fin, S9), fun H' h' => ⟨xs.length - (i + 1), by omega, rfl, h'⟩, fun x H3 hy => ?_⟩
      obtain ⟨k3, r3, q3⟩ := yl x H3 hy
      have pB : Pre A (A2 ++ [D]) := p1.trans (p2.trans (Pre.app A2 [D]))
      have kB : Keep H H3 := k1.trans (k2.trans k3)
      refine og.wp _ _ _ _ (hg (L2.wipe σ vs) H3 (A2 ++ [D]) (wipeE env vs) _ x _ env3 S3 ((hE.keep kB pB).wipe vs) r3 (.p q3) e3 _ fun σ4 H4 A4 p4 k4 r4 q4 w4 => ⟨w4.trans (wipe_wipe σ vs), ?_⟩)
      refine ht σ4 H4 A4 env3 S3 b S4 q4 r4 e4 _ fun H5 A5 p5 k5 r5 => ?_
      have dAt : ∀ {A' : List Addr}, Pre (A2 ++ [D]) A' → A'[S1.length]? = some D := fun {A'} p => p _ _ (by rw [← l2, ← la]; simp)
      cases b with
      | true =>
        rw [if_pos rfl]
        simp only [if_true] at hf2
        obtain ⟨⟨q, S5⟩, e5, hf2⟩ := Option.bind_eq_some_iff.mp hf2
        obtain ⟨⟨z, S6⟩, e6, hf2⟩ := Option.bind_eq_some_iff.mp hf2
        refine hk σ4 H5 A5 env3 S4 q S5 (q4.keep k5 p5) r5 e5 _ fun u0 H6 A6 p6 k6 r6 q6 => ?_
        refine he σ4 H6 A6 env3 S5 z S6 (q4.keep (k5.trans k6) (p5.trans p6)) r6 e6 _ fun u H7 A7 p7 k7 r7 q7 => ?_
        simp only at hf2
        split at hf2
        · next d =>
          obtain ⟨k, ek, h8⟩ := Option.bind_eq_some_iff.mp hf2
          obtain ⟨⟨S8, acc'⟩, e7, h9⟩ := Option.bind_eq_some_iff.mp h8
          simp only at h9
          split at h9
          · next hz =>
            obtain ⟨rfl, l7, g7⟩ := unsnocD_ok e7
            obtain ⟨dk, rfl, hdk⟩ := keyT_ok ek
            have pD := dAt (p4.trans (p5.trans (p6.trans p7)))
            obtain ⟨ws, h7, rr7⟩ := r7.ob _ _ _ pD g7
            cases q6 with
            | p q6 =>
              obtain rfl := keyOf_ok q6 hdk
              cases q7 with
              | p q7 =>
                refine ⟨ws, k, rfl, h7, by rw [Paired.length rr7]; exact hz, hlt, A7.take S1.length, S6.take S1.length, putD acc' k d, ?_⟩
                have kk := Keep.put (o' := .dK (putK ws k u)) h7 free_dK
                refine ⟨k2.trans (k3.trans (k4.trans (k5.trans (k6.trans (k7.trans kk))))), ?_, l7, ?_, h9⟩
                · rw [← m1]; exact preTake ((p2.trans (Pre.app A2 [D])).trans (p4.trans (p5.trans (p6.trans p7))))
                · have s8 := (r7.put pD (o := .dK (putK ws k u)) (ob := .dic (putD acc' k d)) ⟨_, upd_same, (rr7.put k q7).keep kk⟩).take (S1.length + 1)
                  have hl6 := (List.getElem?_eq_some_iff.mp g7).1
                  have e2 : (S6.set S1.length (.dic (putD acc' k d))).take (S1.length + 1) = S6.take S1.length ++ [.dic (putD acc' k d)] := by
                    rw [take_snoc (List.getElem?_set_self hl6), List.take_set_of_le (Nat.le_refl _)]
                  rw [take_snoc pD, e2] at s8
                  exact s8
          · cases h9
        · cases hf2
      | false =>
        rw [if_neg Bool.false_ne_true]
        simp only [Bool.false_eq_true, if_false] at hf2
        obtain ⟨⟨S7, acc'⟩, e7, hf2⟩ := Option.bind_eq_some_iff.mp hf2
        obtain ⟨rfl, l7, g7⟩ := unsnocD_ok e7
        have pD := dAt (p4.trans p5)
        refine ⟨hlt, A5.take S1.length, S4.take S1.length, acc', k2.trans (k3.trans (k4.trans k5)), ?_, l7, ?_, hf2⟩
        · rw [← m1]; exact preTake ((p2.trans (Pre.app A2 [D])).trans (p4.trans p5))
        · have s8 := r5.take (S1.length + 1)
          rw [take_snoc pD, take_snoc g7] at s8
          exact s8
    · cases hf2
  · have e : i = xs.length := by omega
    subst e
    rw [List.drop_length] at hf2
    simp only [dcGo] at hf2
    split at hf2
    · next hgd =>
      cases hf2
      refine .inl ⟨J1.stop _ H2 _ _ k2 r2 gA (gG hgd) (Nat.le_refl _), ?_⟩
      exact hq _ H2 (A2 ++ [D]) (p1.trans (p2.trans (Pre.app A2 [D]))) (k1.trans k2) r2 (.loc (by rw [← l2, ← la]; simp))
    · cases hf2
theorem pv_dc {scope : Scope} {own : List (Str × Nat)} {ifs : List Expr} {wi : TI} {g : TG} {tt : TT} {fi : IF} {fg : GF} {ft : TF} (hc : X.calm = true) (hN : X.N.Nodup) (hi : PVI X tg it wi fi) (ok : BlkOk X.N X.env.scope scope own)
    (hg : ∀ (s : Shared) (H : Hp) (C : Addr) (cl : List (Str × Addr)) (fp : List Addr), PVG (X.blk s H scope (compEnvC scope cl C X.env) fp) tg g fg) (og : OwnG g (own.map (·.2)))
    (ht : ∀ (s : Shared) (H : Hp) (C : Addr) (cl : List (Str × Addr)) (fp : List Addr), PVTs (X.blk s H scope (compEnvC scope cl C X.env) fp) ifs tt ft)
    (hk : ∀ (s : Shared) (H : Hp) (C : Addr) (cl : List (Str × Addr)) (fp : List Addr), PV (X.blk s H scope (compEnvC scope cl C X.env) fp) kx tk fk)
    (he : ∀ (s : Shared) (H : Hp) (C : Addr) (cl : List (Str × Addr)) (fp : List Addr), PV (X.blk s H scope (compEnvC scope cl C X.env) fp) vx tv fv) (s0 : Shared) (H0 : Hp) (hs : ∀ x, foldedSetIterable it X.env x = pure x := by intro _; rfl) :
    PV X (.DictComp kx vx [⟨tg, it, ifs, 0⟩] scope pos) (tDc wi g tt tk tv (own.map (·.2))) (dcF fi fg ft fk fv (own.map (·.2))) :=
  ⟨pe_dc hc hN hi.pi ok (fun s H C cl fp => (hg s H C cl fp).pg) (fun s H C cl fp => (ht s H C cl fp).pt) (fun s H C cl fp => (hk s H C cl fp).pe) (fun s H C cl fp => (he s H C cl fp).pe) hs,
    dc_ok hi.ok (hg s0 H0 0 [] []).ok og (ht s0 H0 0 [] []).ok (hk s0 H0 0 [] []).ok (he s0 H0 0 [] []).ok⟩

/-! ### dict(list of pairs), dict() -/
def pairOf : D → Option (Key × D)
  | .tuple [k, v] => (keyOf k).map fun q => (q, v)
  | _ => none
def pairsOf : List D → Option KD
  | [] => some []
  | d :: ds => (pairOf d).bind fun q => (pairsOf ds).map fun r => q :: r
def mergeD (kvs more : KD) : KD := more.foldl (fun acc kv => putD acc kv.1 kv.2) kvs
theorem pairOf_ok {K : PySem.W.Frag} {H : Hp} {v : V} {d : D} {q : Key × D} (r : Rp K H v d) (h : pairOf d = some q) : ∃ a u, v = .ref a ∧ SqT K H a [kV q.1, u] ∧ Rp K H u q.2 := by
  unfold pairOf at h
  split at h
  · obtain ⟨k, e, h⟩ := Option.map_eq_some_iff.mp h
    subst h
    cases r with
    | tup s r =>
      cases r with
      | cons r1 r2 =>
        cases r2 with
        | cons r2 r3 =>
          cases r3
          obtain rfl := keyOf_ok r1 e
          exact ⟨_, _, rfl, s, r2⟩
  · cases h
theorem pairsOf_ok {K : PySem.W.Frag} {H : Hp} : ∀ {vs : List V} {ds : List D} {kvs : KD}, Rps K H vs ds → pairsOf ds = some kvs → ∃ (ps : List Addr) (kv : List (Key × V)), vs = ps.map V.ref ∧ Paired (fun p kv => SqT K H p [kV kv.1, kv.2]) ps kv ∧ RKV K H kv kvs
  | _, [], _, r, h => by cases h; cases r; exact ⟨[], [], rfl, .nil, .nil⟩
  | _, d :: ds, _, r, h => by
    obtain ⟨q, e1, h⟩ := Option.bind_eq_some_iff.mp h
    obtain ⟨kvs, e2, h⟩ := Option.map_eq_some_iff.mp h
    subst h
    cases r with
    | cons r1 r2 =>
      obtain ⟨a, u, rfl, s, q1⟩ := pairOf_ok r1 e1
      obtain ⟨ps, kv, rfl, q2, q3⟩ := pairsOf_ok r2 e2
      exact ⟨a :: ps, (q.1, u) :: kv, rfl, .cons s q2, .cons ⟨rfl, q1⟩ q3⟩
theorem RKV.merge {K : PySem.W.Frag} {H : Hp} {m : List (Key × V)} {ms : KD} (h : RKV K H m ms) : ∀ {kv : List (Key × V)} {kvs : KD}, RKV K H kv kvs → RKV K H (mergeK kv m) (mergeD kvs ms) := by
  induction h with
  | nil => exact fun r => r
  | @cons p q ps qs h t ih =>
    intro kv kvs r
    exact ih (kv := putK kv p.1 p.2) (kvs := putD kvs q.1 q.2) (by rw [h.1]; exact r.put q.1 h.2)
def dictT : DF := fun ts S => match ts with
  | [t] => ((lstOf S t).bind pairsOf).map fun kvs => (.loc S.length, S ++ [.dic (mergeD [] kvs)])
  | _ => none
theorem dict_ok {K : PySem.W.Frag} : CallOk K (fun xs H Q => ∃ (a : Addr) (ps : List Addr) (kvs : List (Key × V)), xs = [.ref a] ∧ SqL K H a (ps.map V.ref) ∧ Paired (fun p kv => SqT K H p [kV kv.1, kv.2]) ps kvs ∧ ∀ p, H p = none → Q (.ref p) (upd H p (.dK (mergeK [] kvs)))) dictT := by
  intro H A S vs ts v S' hs rs h Q hq
  unfold dictT at h
  split at h
  · obtain ⟨x, rfl, r⟩ := rs.one
    obtain ⟨kvs, e, h⟩ := Option.map_eq_some_iff.mp h
    obtain ⟨ds, e1, e2⟩ := Option.bind_eq_some_iff.mp e
    cases h
    obtain ⟨a, ws, rfl, hl, r1⟩ := lstOf_ok hs r e1
    obtain ⟨ps, kv, rfl, q2, q3⟩ := pairsOf_ok r1 e2
    exact ⟨a, ps, kv, rfl, hl, q2, fun z hz => hq _ _ _ (Pre.app A [z]) (Keep.new hz) (hs.push hz ⟨_, upd_same, ((RKV.merge q3 (kv := []) (kvs := []) .nil)).keep (Keep.new hz)⟩) (.loc (by rw [← hs.len]; simp))⟩
  · cases h

/-! ### powers, products -/
def CPowA (i j : Int) : Prop := CPow i j ∨ (0 ≤ j ∧ (Builtin.Int.intBits i : Int) * j ≤ 2 ^ 27)
instance {i j : Int} : Decidable (CPowA i j) := inferInstanceAs (Decidable (_ ∨ _))
theorem op_powA : OpR X (binaryOp .Pow) (rI CPowA fun i j => .int (i ^ j.toNat)) := opI fun _ _ _ _ _ _ _ hc q => by
  rcases hc with hc | hc
  · exact pow_int_small hc.1 hc.2.1 hc.2.2 q
  · exact pow_int hc.1 hc.2 q
abbrev powA : Op2 := iop fun i j => if CPowA i j then some (.int (i ^ j.toNat)) else none
theorem pv_powA (ha : PV X a ta fa) (hb : PV X b tb fb) : PV X (.BinOp a .Pow b pos) (tOp (rI CPowA fun i j => .int (i ^ j.toNat)) ta tb) (binF powA fa fb) := pv_op op_powA (iop_ok fun i j H => .int _) ha hb
/-! list(range(..)) -/
end
end Pv
set_option maxHeartbeats 4000000
/-! Pv11: sorted of ints, of pairs of ints: lists, tuples, what a dict holds. -/
namespace Pv
open PySem PySem.Spec PyProof.Rows L2

/-! ### one sorted list -/
def sortI (ns : List Int) : List Int := ns.mergeSort fun a b => decide (a ≤ b)
theorem sortI_perm (ns : List Int) : (sortI ns).Perm ns := List.mergeSort_perm ns _
theorem sortI_le (ns : List Int) : (sortI ns).Pairwise (· ≤ ·) := by
  have h := List.pairwise_mergeSort (le := fun (a b : Int) => decide (a ≤ b)) (fun a b c h1 h2 => by simp at *; omega) (fun a b => by simp; omega) ns
  exact h.imp fun {a b} q => of_decide_eq_true q
theorem sortI_uniq {ms ns : List Int} (h : ms.Perm ns) (s : ms.Pairwise (· ≤ ·)) : ms = sortI ns := PySem.W.ksm_same (h.trans (sortI_perm ns).symm) s (sortI_le ns)
def lexLe (p q : Int × Int) : Bool := !SrtO.lexB q p
def sortP (ps : List (Int × Int)) : List (Int × Int) := ps.mergeSort lexLe
theorem lexLe_iff {p q : Int × Int} : lexLe p q = true ↔ p.1 < q.1 ∨ (p.1 = q.1 ∧ p.2 ≤ q.2) := by
  unfold lexLe
  cases h : SrtO.lexB q p with
  | true => have := SrtO.lexB_iff.mp h; simp; omega
  | false => have := SrtO.lexB_no.mp h; simp; omega
theorem sortP_perm (ps : List (Int × Int)) : (sortP ps).Perm ps := List.mergeSort_perm ps _
theorem sortP_le (ps : List (Int × Int)) : (sortP ps).Pairwise fun p q => lexLe p q = true :=
  List.pairwise_mergeSort (le := lexLe) (fun a b c h1 h2 => by rw [lexLe_iff] at *; omega) (fun a b => by
    cases h : lexLe a b with
    | true => rfl
    | false =>
      have : ¬ lexLe a b = true := by rw [h]; exact Bool.false_ne_true
      rw [lexLe_iff] at this
      rw [Bool.false_or, lexLe_iff]; omega) ps
theorem sortP_uniq {ms ns : List (Int × Int)} (h : ms.Perm ns) (s : ms.Pairwise fun p q => lexLe p q = true) : ms = sortP ns := by
  refine List.Perm.eq_of_pairwise (le := fun p q => lexLe p q = true) (fun x y _ _ h1 h2 => ?_) s (sortP_le ns) (h.trans (sortP_perm ns).symm)
  rw [lexLe_iff] at h1 h2
  exact Prod.ext (by omega) (by omega)
/-- a pair of ints as data -/
def pairI (p : Int × Int) : D := .tuple [.int p.1, .int p.2]
def pairsI : List D → Option (List (Int × Int))
  | [] => some []
  | .tuple [.int i, .int j] :: ds => (pairsI ds).map fun r => (i, j) :: r
  | _ :: _ => none
theorem pairsI_map : ∀ ps : List (Int × Int), pairsI (ps.map pairI) = some ps
  | [] => rfl
  | p :: ps => by show (pairsI (ps.map pairI)).map _ = _; rw [pairsI_map ps]; rfl
theorem pairsI_eq : ∀ {ds : List D} {ps : List (Int × Int)}, pairsI ds = some ps → ds = ps.map pairI := by
  intro ds
  induction ds with
  | nil => intro ps h; cases h; rfl
  | cons d ds ih =>
    intro ps h
    unfold pairsI at h
    split at h
    · next h0 => cases h0
    · next i j ds' h0 =>
      cases h0
      obtain ⟨r, e, h⟩ := Option.map_eq_some_iff.mp h
      subst h
      rw [ih e]; rfl
    · cases h
/-- sorted, of what there is a rule for -/
def sortD (ds : List D) : Option (List D) := match intsOf ds with
  | some ns => some ((sortI ns).map PyData.int)
  | none => (pairsI ds).map fun ps => (sortP ps).map pairI
theorem sortD_ints (ns : List Int) : sortD (ns.map PyData.int) = some ((sortI ns).map PyData.int) := by unfold sortD; rw [intsOf_map]
theorem sortD_pairs (ps : List (Int × Int)) (h : ps ≠ []) : sortD (ps.map pairI) = some ((sortP ps).map pairI) := by
  cases ps with
  | nil => exact absurd rfl h
  | cons p ps =>
    have : intsOf ((p :: ps).map pairI) = none := rfl
    unfold sortD
    rw [this, pairsI_map]
    rfl

section
variable {X : Cx} {pins : List (Addr × Obj)} {σ : L2.St} {H : Hp} {s : Shared}
/-- the context one call deeper -/
abbrev deep1 (X : Cx) : Cx := { X with A := X.A.in1 }
theorem inv1 (I : Inv X pins σ H s) : Inv (deep1 X) pins σ H s :=
  ⟨⟨I.ok.mod, I.ok.kind, I.ok.glob, I.ok.blt, I.ok.above, I.ok.inj, I.ok.has, I.ok.cab, I.ok.hd, I.ok.frames, I.ok.stk, I.ok.exf, I.ok.bs, I.ok.bsz, I.ok.noex, I.ok.exfs, I.ok.funs, I.ok.frf⟩, I.os, I.bare, I.base, I.loc, I.cell, I.free, I.freeC, I.pin, I.hok, I.len⟩
theorem inv0 (I : Inv (deep1 X) pins σ H s) (ok : X.Ok) : Inv X pins σ H s := ⟨ok, I.os, I.bare, I.base, I.loc, I.cell, I.free, I.freeC, I.pin, I.hok, I.len⟩
/-! list.sort by data -/
def kf (h : Heap) : Value → Int × Int
  | .ref a => match h.get? a with
    | some o => match o.data with
      | .seq its _ => match its[0]?, its[1]? with
        | some (Value.int i _), some (Value.int j _) => (i, j)
        | _, _ => (0, 0)
      | _ => (0, 0)
    | none => (0, 0)
  | _ => (0, 0)
theorem kf_pair {h : Heap} {v : Value} {i j : Int} (p : Srt.IsPair h v i j) : kf h v = (i, j) := by
  obtain ⟨a, o, t, u, n, rfl, ho, hc, hd⟩ := p
  simp only [kf, ho, hd]
  rfl
theorem pairs_at {X : Cx} {pins : List (Addr × Obj)} {σ : L2.St} {H : Hp} {s : Shared} (I : Inv X pins σ H s) : ∀ {items : List V} {its : List Value} {ps : List (Int × Int)}, Vals items its → Rps X.K H items (ps.map pairI) →
    its.map (kf s.heap) = ps ∧ items = its.map backV ∧ ∀ v ∈ its, (∃ a, v = Value.ref a) ∧ Srt.IsPair s.heap v (kf s.heap v).1 (kf s.heap v).2 ∧ Rp X.K H (backV v) (pairI (kf s.heap v))
  | _, _, [], r, q => by cases q; cases r; exact ⟨rfl, rfl, fun v h => by simp at h⟩
  | _, _, p :: ps, r, q => by
    cases q with
    | cons q1 q2 =>
      cases r with
      | cons r1 r2 =>
        obtain ⟨h1, h2, h3⟩ := pairs_at I r2 q2
        have q1' := q1
        cases q1 with
        | @tup a vs _ s1 rr =>
          obtain ⟨us, rv, ⟨o, ho, hc, n, hd⟩, _⟩ := I.tuple s1
          cases rr with
          | cons x1 rr =>
            cases rr with
            | cons x2 rr =>
              cases rr; cases x1; cases x2
              obtain ⟨u1, u2, rfl, ri, rj⟩ := vals2 rv
              obtain ⟨t1, rfl⟩ := ri
              obtain ⟨t2, rfl⟩ := rj
              cases r1
              have ip : Srt.IsPair s.heap (.ref a) p.1 p.2 := ⟨a, o, t1, t2, n, rfl, ho, hc, hd⟩
              have ek := kf_pair ip
              refine ⟨by rw [List.map_cons, ek, h1], by rw [List.map_cons, ← h2]; rfl, fun v hv => ?_⟩
              rcases List.mem_cons.mp hv with rfl | hv
              · refine ⟨⟨a, rfl⟩, ?_, ?_⟩
                · rw [ek]; exact ip
                · rw [ek]; exact q1'
              · exact h3 v hv
def rSortD (K : PySem.W.Frag) : V → List V → Hp → VK → Prop := fun x xs H Q => ∃ (a : Addr) (items : List V) (ds es : List D), x = V.ref a ∧ xs = [] ∧ H a = some (.lst items) ∧ Rps K H items ds ∧ sortD ds = some es ∧
  ∀ zs, Rps K H zs es → Q .non (upd H a (.lst zs))
theorem mt_sortD {X : Cx} : MtR X "list.sort" (rSortD X.K) := by
  intro pins s σ H x xs v us Q I rx rxs h
  obtain ⟨a, items, ds, es, rfl, rfl, ha, r, hd, q⟩ := h
  unfold sortD at hd
  split at hd
  · next ns e =>
    cases hd
    rw [intsOf_eq e] at r
    rw [r.of_ints] at ha
    exact mt_sortI pins s σ H _ [] v us Q I rx rxs ⟨a, ns, rfl, rfl, ha, fun ms h1 h2 => by rw [sortI_uniq h1 h2]; exact q _ Rps.ints⟩
  · obtain ⟨ps, e, h⟩ := Option.map_eq_some_iff.mp hd
    subst h
    rw [pairsI_eq e] at r
    cases rx
    cases rxs
    obtain ⟨hz, its, n, rv, hob⟩ := I.hok a _ ha
    obtain ⟨f1, f2, f3⟩ := pairs_at I rv r
    refine wpAny_call_entry PyProof.Rows.slot_list_sort ⟨_, hob, rfl⟩ PyProof.Rows.entry_list_sort (SrtO.list_sort_ord (SrtO.swo_lex (kf s.heap)) hob (by rw [← rv.length]; exact hz) (fun h2 => ?_) fun out h1 h2 => ⟨.none, rfl, ?_⟩) (PyProof.Rows.args_list_sort _)
    · refine SrtO.pairs_sortableO (by omega) (fun v hv => (f3 v hv).2.1) fun o eo => ?_
      rw [hob] at eo
      cases eo
      exact fun c => absurd (Value.type.inj c) (by decide)
    · have mem : ∀ u ∈ out, u ∈ its := fun u hu => h2.perm.mem_iff.mp hu
      obtain ⟨ep, he'⟩ := PyProof.Rows.sortedHeap_at (vs := its) (out := out.toArray) hob
      have hsort : out.map (kf s.heap) = sortP ps := by
        refine sortP_uniq (by rw [← f1]; exact h2.perm.map _) (List.pairwise_map.mpr (List.Pairwise.imp (fun {u v} h => ?_) h1))
        unfold lexLe
        have h' : SrtO.lexB (kf s.heap v) (kf s.heap u) = false := h
        rw [h']; rfl
      have rz : Rps X.K H (out.map backV) ((sortP ps).map pairI) := by
        rw [← hsort]
        have : ∀ l : List Value, (∀ u ∈ l, u ∈ its) → Rps X.K H (l.map backV) ((l.map (kf s.heap)).map pairI) := fun l => by
          induction l with
          | nil => exact fun _ => .nil
          | cons u l ih => exact fun hl => .cons (f3 u (hl u List.mem_cons_self)).2.2 (ih fun w hw => hl w (List.mem_cons_of_mem _ hw))
        exact this out mem
      have lz : (out.map backV).length ≤ sizeLine := by
        rw [List.length_map, h2.perm.length_eq, ← rv.length]; exact hz
      refine ⟨.non, upd H a (.lst (out.map backV)), I.write (e := a) (t' := s.toks) (by rw [ha]; trivial) (.inl rfl) (fun b u hb hu => ?_) ⟨_, he'⟩ ⟨lz, out, ep, vals_back fun u hu => (f3 u (mem u hu)).1, he'⟩, rfl, q _ rz⟩
      exact (PyProof.Rows.sortedHeap_old hb (Heap.lt_size hu)).trans hu
/-- sorted(v), what v holds collected first, then put into a list and that list sorted -/
theorem sorted_by {v : Value} {Q : VK} (I : Inv X pins σ H s)
    (hcol : ∀ (W : List Value → Shared → Prop) (E : Value → Shared → Prop), (∀ vs s1, (∃ H1 items, Inv X pins σ H1 s1 ∧ Vals items vs ∧ items.length ≤ sizeLine ∧ ∃ ds es, Rps X.K H1 items ds ∧ sortD ds = some es ∧ ∀ p zs, H1 p = none → Rps X.K (upd H1 p (.lst zs)) zs es → Q (.ref p) (upd H1 p (.lst zs))) → W vs s1) → wpAny (model X.prog X.w) X.A.in1 (collect v) W E s) :
    wpAny (model X.prog X.w) X.A (call (.builtin "sorted") [v]) (EP X pins σ Q) X.xe s := by
  refine Calls.call_function_entry kind_sorted plain_sorted entry_sorted (args_sorted1 _) ?_
  unfold Builtin.«sorted»
  refine wpAny_bind (m := checkCount "sorted" 1 1 _) (wpAny_pure ?_)
  refine wpAny_bind (hcol _ _ fun vs s1 ⟨H1, items, I1, rv, hz, ds, es, rd, hd, hq⟩ => ?_)
  have hl : vs.length ≤ sizeLine := by rw [← rv.length]; exact hz
  refine wpAny_bind (wpAny_newList ?_ hl)
  have I2 : Inv X pins σ (upd H1 s1.heap.objs.size (.lst items)) { s1 with heap := s1.heap.push { cls := .type "list", data := .seq vs.toArray } } := I1.laid (t' := s1.toks) (fun b o e => Heap.get?_push_of_some _ e) (Nat.le_refl _) ⟨hz, vs, 0, rv, Heap.get?_push_size _ rfl⟩
  have hn : H1 s1.heap.objs.size = none := I1.hok.fresh (Nat.le_refl _)
  have key := mt_sortD (X := deep1 X) pins _ σ _ (.ref s1.heap.objs.size) [] (.ref s1.heap.objs.size) [] (fun _ H2 => Q (.ref s1.heap.objs.size) H2) (inv1 I2) rfl .nil
    ⟨s1.heap.objs.size, items, ds, es, rfl, rfl, upd_same, rd.keep (Keep.new hn), hd, fun zs rz => ?_⟩
  refine wpAny_bind (wpAny_holding (wpAny_mono key (fun _ s2 ⟨u, H2, I3, _, q⟩ => ?_) fun _ _ z => z))
  · exact wpAny_pure ⟨_, rfl, .ref s1.heap.objs.size, H2, inv0 I3 I.ok, rfl, q⟩
  · rw [upd_upd]
    refine hq _ zs hn ?_
    have k := Keep.put (o' := .lst zs) (upd_same (H := H1) (a := s1.heap.objs.size) (o := .lst items)) free_lst
    rw [upd_upd] at k
    exact rz.keep k

/-- sorted(x) of a list or a tuple -/
def rSortedQ (K : PySem.W.Frag) : List V → Hp → VK → Prop := fun xs H Q => ∃ (a : Addr) (items : List V) (ds es : List D), xs = [.ref a] ∧ (SqL K H a items ∨ SqT K H a items) ∧ Rps K H items ds ∧ sortD ds = some es ∧
  ∀ p zs, H p = none → Rps K (upd H p (.lst zs)) zs es → Q (.ref p) (upd H p (.lst zs))
theorem cr_sortedQ : CallR X (.builtin "sorted") (rSortedQ X.K) := by
  intro pins s σ H xs us Q I r h
  obtain ⟨a, items, ds, es, rfl, hsq, rd, hd, q⟩ := h
  obtain ⟨u, rfl, ru⟩ := vals1 r
  cases ru
  refine sorted_by I fun W E hW => ?_
  rcases hsq with h | h
  · obtain ⟨its, rv, ⟨o, n, ho, hc, _, hd'⟩, hz⟩ := I.list h
    refine wpAny_collect_seq a (.inl rfl) ho hc hd' (fun h' hk => hW _ _ ⟨H, items, I.kept (t' := s.toks) hk, by simpa using rv, hz, ds, es, rd, hd, q⟩) ?_
    rw [List.size_toArray, ← rv.length]; exact hz
  · obtain ⟨its, rv, ⟨o, ho, hc, n, hd'⟩, hz⟩ := I.tuple h
    refine wpAny_collect_seq a (.inr rfl) ho hc hd' (fun h' hk => hW _ _ ⟨H, items, I.kept (t' := s.toks) hk, by simpa using rv, hz, ds, es, rd, hd, q⟩) ?_
    rw [List.size_toArray, ← rv.length]; exact hz
def sortedT : DF := fun ts S => match ts with
  | [t] => ((seqOf S t).bind sortD).map fun es => (.loc S.length, S ++ [.lst es])
  | _ => none
theorem sorted_ok {K : PySem.W.Frag} : CallOk K (rSortedQ K) sortedT := by
  intro H A S vs ts v S' hs rs h Q hq
  unfold sortedT at h
  split at h
  · obtain ⟨x, rfl, r⟩ := rs.one
    obtain ⟨es, e, h⟩ := Option.map_eq_some_iff.mp h
    obtain ⟨ds, e1, e2⟩ := Option.bind_eq_some_iff.mp e
    cases h
    obtain ⟨a, ws, rfl, hl, r1⟩ := seqOf_ok hs r e1
    exact ⟨a, ws, ds, es, rfl, hl, r1, e2, fun p zs hp rz => hq _ _ _ (Pre.app A [p]) (Keep.new hp) (hs.push hp ⟨zs, upd_same, rz⟩) hs.numL⟩
  · cases h
/-! sorted(d.values()), sorted(d.items()), sorted(d) -/
variable {e o : Expr} {te td : TE} {fe fd : EF} {p pos apos cpos : Pos}
/-- what is told of a dict's sorted things: G what they are -/
def tSortedD (K : PySem.W.Frag) (G : KD → List D) (te : TE) : TE := fun σ H Q => te σ H fun x H1 => ∃ (d : Addr) (kv : List (Key × V)) (kvs : KD) (es : List D), x = .ref d ∧ H1 d = some (.dK kv) ∧ RKV K H1 kv kvs ∧ sortD (G kvs) = some es ∧
  ∀ (H2 : Hp) p zs, Keep H1 H2 → (∀ b ob, H1 b = some ob → H2 b = some ob) → H1 p = none → H2 p = none → Rps K (upd H2 p (.lst zs)) zs es → Q (.ref p) (upd H2 p (.lst zs))
theorem keep_of {H H' : Hp} (k : ∀ b ob, H b = some ob → H' b = some ob) : Keep H H' := ⟨⟨fun b xs h => by
  rcases h with h | ⟨o, h⟩
  · exact .inl (k _ _ h)
  · exact .inr ⟨o, k _ _ h⟩, fun b o xs h => k _ _ h, fun b o xs h => k _ _ h⟩, fun b o xs h => k _ _ h⟩
theorem RKV.vals {K : PySem.W.Frag} {H : Hp} {kv : List (Key × V)} {kvs : KD} (r : RKV K H kv kvs) : Rps K H (kv.map (·.2)) (kvs.map (·.2)) := by
  induction r with
  | nil => exact .nil
  | cons h t ih => exact .cons h.2 ih
theorem KV.vals {kv : List (Key × V)} {vs : List (Key × Value)} (r : KV kv vs) : Vals (kv.map (·.2)) (vs.map (·.2)) := by
  induction r with
  | nil => exact .nil
  | cons h t ih => exact .cons h.2 ih
/-- a builtin of what a method of a dict hands out: the dict, the view at its place -/
theorem view_call {X : Cx} {e : Expr} {te : TE} {x : Str} {p pos apos cpos : Pos} {m : Str} {id fid : String} {R : V → Hp → VK → Prop} (he : PE X e te) (hg : Gl X x) (hm : X.mg x = none) (hv : bootBuiltins x = some (.builtin fid)) (hn : x ≠ "__name__") (hdb : (x == ("__debug__" : Str)) = false)
    (slot : Slot "dict" m id) (hty : typeOf (.builtin id) = pure (.type "method_descriptor")) (hbase : attributeBase e m X.env (eval e X.env) = eval e X.env) (hline : (apos.endLine == cpos.line) = true)
    (hs : starEach [.Call (.Attribute e m apos) [] [] cpos] X.env = (false, eval (.Call (.Attribute e m apos) [] [] cpos) X.env) :: starEach [] X.env) (hpl : (backTo pos (starEach [] X.env)).any (·.1) = false)
    (hR : ∀ (pins : List (Addr × Obj)) (s : Shared) (σ : L2.St) (H : Hp) (y : V) (Q : VK), Inv X pins σ H s → R y H Q → ∃ d, y = .ref d ∧ s.TypeIs (.ref d) "dict" ∧ (∀ b, Value.ref d = .ref b → ∃ ob, s.heap.get? b = some ob ∧ ob.dict = none) ∧
      wpAny (model X.prog X.w) X.A (callWith cpos (.builtin id) [.ref d] [] []) (fun u s' => wpAny (model X.prog X.w) X.A (call (.builtin fid) [u]) (EP X pins σ Q) X.xe s') X.xe s) :
    PE X (.Call (.Name x p) [.Call (.Attribute e m apos) [] [] cpos] [] pos) (fun σ H Q => te σ H fun y H1 => R y H1 Q) := by
  refine ⟨fun pins s σ H Q I hq => ?_⟩
  refine wpAny_Call_Name_kw (ld_blt I hg hm hv ?_ hn hdb)
  refine PyProof.Rows.callWith_builtin1 ?_ hs hpl
  rw [hs]
  refine Calls.spliced_cons ?_
  refine wpAny_Call_method (T := "dict") (id := id) hbase rfl hline F.plainAttrs_dict slot hty (thn (he.run pins s σ H _ I hq) fun u s1 ⟨y, H1, I1, ry, r⟩ => ?_)
  obtain ⟨d, rfl, h1, h2, h3⟩ := hR pins s1 σ H1 y Q I1 r
  cases ry
  exact ⟨h1, h2, thn h3 fun u s2 h => Calls.spliced_nil h⟩
/-- sorted(d.values()) -/
def rSortedV (K : PySem.W.Frag) : V → Hp → VK → Prop := fun y H Q => ∃ (d : Addr) (kv : List (Key × V)) (kvs : KD) (es : List D), y = .ref d ∧ Rd H d (.dK kv) ∧ RKV K H kv kvs ∧ sortD (kvs.map (·.2)) = some es ∧
  ∀ p zs, H p = none → Rps K (upd H p (.lst zs)) zs es → Q (.ref p) (upd H p (.lst zs))
theorem vals_items {vs : List (Key × Value)} {acc : Array Value} (h : ItemsOf (fun i v => ∃ k, vs[i]? = some (k, v)) acc vs.length) : acc.toList = vs.map (·.2) := by
  refine List.ext_getElem? fun i => ?_
  by_cases hi : i < acc.size
  · have e1 : acc[i]? = some acc[i] := Array.getElem?_eq_getElem hi
    obtain ⟨k, e2⟩ := h.2 i _ e1
    rw [Array.getElem?_toList, e1, List.getElem?_map, e2]; rfl
  · rw [Array.getElem?_toList, Array.getElem?_eq_none (by omega), List.getElem?_eq_none (by rw [List.length_map, ← h.1]; omega)]
theorem pe_sortedV {X : Cx} {e : Expr} {te : TE} {p pos apos cpos : Pos} (hc : X.calm = true) (he : PE X e te) (hg : Gl X "sorted") (hm : X.mg "sorted" = none) (hbase : attributeBase e "values" X.env (eval e X.env) = eval e X.env := by rfl) (hline : (apos.endLine == cpos.line) = true := by rfl)
    (hs : starEach [.Call (.Attribute e "values" apos) [] [] cpos] X.env = (false, eval (.Call (.Attribute e "values" apos) [] [] cpos) X.env) :: starEach [] X.env := by rfl) (hpl : (backTo pos (starEach [] X.env)).any (·.1) = false := by rfl) :
    PE X (.Call (.Name "sorted" p) [.Call (.Attribute e "values" apos) [] [] cpos] [] pos) (fun σ H Q => te σ H fun y H1 => rSortedV X.K y H1 Q) := by
  refine view_call (fid := "sorted") (id := "dict.values") he hg hm (by decide +kernel) (by decide) (by decide) F.slot_dict_values F.type_dict_values hbase hline hs hpl ?_
  intro pins s σ H y Q I h
  obtain ⟨d, kv, kvs, es, rfl, rd, rk, hsd, q⟩ := h
  obtain ⟨hz, hs0, vs, rv, hdo⟩ := dk_rd I.hok rd
  obtain ⟨ep, hat⟩ := hdo.dictAt
  refine ⟨d, rfl, hdo.typeIs, hdo.mapOf.noDict, ?_⟩
  refine method_meetsIn F.slot_dict_values F.entry_dict_values rfl (PySem.evalArgs_none ⟨rfl, hdo.typeIs, F.args_dict_values_1 _, _, meets_dict_values (mixKind X.prog X.w) d hs0, ⟨vs, hdo⟩, ?_⟩)
  have I2 : Inv X pins σ H { s with heap := s.heap.push { cls := .type "dict_values", data := .fields #[.ref d] } } := I.kept (t' := s.toks) fun b ob q => Heap.get?_push_of_some _ q
  refine sorted_by I2 fun W E hW => ?_
  have ok : (s.heap.push { cls := .type "dict_values", data := .fields #[.ref d] }).IsValuesView s.heap.objs.size d ∧ (s.heap.push { cls := .type "dict_values", data := .fields #[.ref d] }).DictAt (mixKind X.prog X.w) d vs ep := ⟨⟨_, Heap.get?_push_size _ rfl, rfl, rfl⟩, hat.push _⟩
  have lz : kv.length = vs.length := Paired.length rv
  refine PySem.W.kdu_collect (PySem.W.kdl_values (knd := mixKind X.prog X.w) (r := s.heap.objs.size) (d := d) (kvs := vs) (ep := ep)) (I.ok.hd hc) ok (by omega) fun h' tk acc hk hacc => ?_
  refine hW _ _ ⟨H, kv.map (·.2), I2.kept (t' := tk) hk, ?_, by rw [List.length_map]; omega, _, es, rk.vals, hsd, q⟩
  rw [vals_items hacc]
  exact KV.vals rv
def sortedVF (fe : EF) : EF := fun env S => (fe env S).bind fun x => (dictOf x.2 x.1).bind fun kvs => (sortD (kvs.map (·.2))).map fun es => (.loc x.2.length, x.2 ++ [.lst es])
theorem pv_sortedV {X : Cx} {e : Expr} {te : TE} {fe : EF} {p pos apos cpos : Pos} (hc : X.calm = true) (he : PV X e te fe) (hg : Gl X "sorted") (hm : X.mg "sorted" = none) (hbase : attributeBase e "values" X.env (eval e X.env) = eval e X.env := by rfl) (hline : (apos.endLine == cpos.line) = true := by rfl)
    (hs : starEach [.Call (.Attribute e "values" apos) [] [] cpos] X.env = (false, eval (.Call (.Attribute e "values" apos) [] [] cpos) X.env) :: starEach [] X.env := by rfl) (hpl : (backTo pos (starEach [] X.env)).any (·.1) = false := by rfl) :
    PV X (.Call (.Name "sorted" p) [.Call (.Attribute e "values" apos) [] [] cpos] [] pos) (fun σ H Q => te σ H fun y H1 => rSortedV X.K y H1 Q) (sortedVF fe) := by
  refine ⟨pe_sortedV hc he.pe hg hm hbase hline hs hpl, ?_⟩
  intro σ H A env S v S' hE hS hf Q hq
  obtain ⟨⟨x, S1⟩, e1, hf⟩ := Option.bind_eq_some_iff.mp hf
  obtain ⟨kvs, e2, hf⟩ := Option.bind_eq_some_iff.mp hf
  obtain ⟨es, e3, hf⟩ := Option.map_eq_some_iff.mp hf
  cases hf
  refine he.ok σ H A env S x S1 hE hS e1 _ fun u H1 A1 p1 k1 s1 r1 => ?_
  obtain ⟨d, kv, rfl, rd, rk⟩ := dictOf_ok s1 r1 e2
  exact ⟨d, kv, kvs, es, rfl, rd, rk, e3, fun z zs hz rz => hq _ _ _ (p1.trans (Pre.app A1 [z])) (k1.trans (Keep.new hz)) (s1.push hz ⟨zs, upd_same, rz⟩) s1.numL⟩
/-- sorted(d.items()) -/
def itemsD (kvs : KD) : List D := kvs.map fun q => .tuple [dK q.1, q.2]
def rSortedI2 (K : PySem.W.Frag) : V → Hp → VK → Prop := fun y H Q => ∃ (d : Addr) (kv : List (Key × V)) (kvs : KD) (es : List D), y = .ref d ∧ Rd H d (.dK kv) ∧ RKV K H kv kvs ∧ sortD (itemsD kvs) = some es ∧
  ∀ H2 p zs, (∀ b ob, H b = some ob → H2 b = some ob) → H p = none → H2 p = none → Rps K (upd H2 p (.lst zs)) zs es → Q (.ref p) (upd H2 p (.lst zs))
/-- new pairs are tracked -/
theorem tups_laid {X : Cx} {pins : List (Addr × Obj)} {σ : L2.St} {H : Hp} {s : Shared} {h' : Heap} {tk : Nat} {kv : List (Key × V)} {vs : List (Key × Value)} {as : List Addr} (I : Inv X pins σ H s) (rv : KV kv vs) (hk : ∀ b o, s.heap.get? b = some o → h'.get? b = some o)
    (hl : as.length = vs.length) (hG : PySem.W.KdxG (mixKind X.prog X.w) vs s.heap.objs.size h' as) :
    ∃ H', (∀ b ob, H b = some ob → H' b = some ob) ∧ (∀ b, b ∉ as → H' b = H b) ∧ Paired (fun (a : Addr) (q : Key × V) => H' a = some (.tup [kV q.1, q.2])) as kv ∧ Inv X pins σ H' { s with heap := h', toks := tk } := by
  have up : ∀ a ∈ as, s.heap.objs.size ≤ a := fun a ha => Nat.le_of_lt (hG.above a ha)
  have new : ∀ a ∈ as, H a = none := fun a ha => I.hok.fresh (up a ha)
  have at_ := LiI.putT_at as kv H (by rw [hl]; exact (Paired.length rv).symm) (hG.rise.imp fun h => Nat.ne_of_lt h)
  have off : ∀ b, b ∉ as → LiI.putT H as kv b = H b := fun b hb => LiI.putT_off as kv H hb
  have old : ∀ b ob, H b = some ob → LiI.putT H as kv b = some ob := fun b ob e => by
    rw [off b fun z => by rw [new b z] at e; cases e]; exact e
  have low : ∀ b ob, s.heap.get? b = some ob → b ∉ as := fun b ob e z => Nat.lt_irrefl _ (Nat.lt_of_lt_of_le (Heap.lt_size e) (up b z))
  refine ⟨LiI.putT H as kv, old, off, at_, I.call' (ch := []) rfl ?_ (fun b u e => ?_) I.bare fun b z => by simp at z⟩
  · exact ⟨fun b o e _ _ _ => hk b o e, fun b o e _ _ _ => ⟨o.slots, hk b o e⟩, fun b o e n _ => (off b (low b o e)).trans n, fun b o e _ => ⟨o, hk b o e⟩, fun b xs e => old b _ e, fun b o xs e => old b _ e, fun b ps e => ⟨#[], by rw [old b _ e, Array.append_empty]⟩⟩
  · by_cases hb : b ∈ as
    · obtain ⟨j, q, e1, e2, e3⟩ := LiI.paired_ix at_ hb
      rw [e3] at e
      cases e
      obtain ⟨key, k, x, g1, g2, g3⟩ := hG.pairs j b e1
      obtain ⟨q', w1, w2, w3⟩ := LiI.paired_get rv e2
      rw [g1] at w1
      cases w1
      have rk : RelV (kV q.1) key := by rw [w2]; exact relV_key (show keyIs k key = true from g2)
      exact ⟨show 2 ≤ sizeLine by decide, [key, x], .cons rk (.cons w3 .nil), _, g3, rfl, _, rfl⟩
    · rw [off b hb] at e
      exact (I.hok b u e).stay (fun c w _ g => hk c w g) (fun c g => old c _ g) fun c xs g => old c _ g
theorem pairs_data {K : PySem.W.Frag} {H H' : Hp} {as : List Addr} {kv : List (Key × V)} {kvs : KD} (h : Paired (fun (a : Addr) (q : Key × V) => H' a = some (.tup [kV q.1, q.2])) as kv) (k : Keep H H') : RKV K H kv kvs → Rps K H' (as.map V.ref) (itemsD kvs) := by
  induction h generalizing kvs with
  | nil => intro r; cases r; exact .nil
  | cons a _ ih =>
    intro r
    cases r with
    | cons b t => exact .cons (.tup (SqT.of a) (.cons (by rw [b.1]; exact rp_key _) (.cons (b.2.keep k) .nil))) (ih t)
theorem pe_sortedI {X : Cx} {e : Expr} {te : TE} {p pos apos cpos : Pos} (hc : X.calm = true) (he : PE X e te) (hg : Gl X "sorted") (hm : X.mg "sorted" = none) (hbase : attributeBase e "items" X.env (eval e X.env) = eval e X.env := by rfl) (hline : (apos.endLine == cpos.line) = true := by rfl)
    (hs : starEach [.Call (.Attribute e "items" apos) [] [] cpos] X.env = (false, eval (.Call (.Attribute e "items" apos) [] [] cpos) X.env) :: starEach [] X.env := by rfl) (hpl : (backTo pos (starEach [] X.env)).any (·.1) = false := by rfl) :
    PE X (.Call (.Name "sorted" p) [.Call (.Attribute e "items" apos) [] [] cpos] [] pos) (fun σ H Q => te σ H fun y H1 => rSortedI2 X.K y H1 Q) := by
  refine view_call (fid := "sorted") (id := "dict.items") he hg hm (by decide +kernel) (by decide) (by decide) F.slot_dict_items F.type_dict_items hbase hline hs hpl ?_
  intro pins s σ H y Q I h
  obtain ⟨d, kv, kvs, es, rfl, rd, rk, hsd, q⟩ := h
  obtain ⟨hz, hs0, vs, rv, hdo⟩ := dk_rd I.hok rd
  obtain ⟨ep, hat⟩ := hdo.dictAt
  refine ⟨d, rfl, hdo.typeIs, hdo.mapOf.noDict, ?_⟩
  refine method_meetsIn F.slot_dict_items F.entry_dict_items rfl (PySem.evalArgs_none ⟨rfl, hdo.typeIs, F.args_dict_items_1 _, _, meets_dict_items (mixKind X.prog X.w) d hs0, ⟨vs, hdo⟩, ?_⟩)
  have I2 : Inv X pins σ H { s with heap := s.heap.push { cls := .type "dict_items", data := .fields #[.ref d] } } := I.kept (t' := s.toks) fun b ob q => Heap.get?_push_of_some _ q
  refine sorted_by I2 fun W E hW => ?_
  have lz : kv.length = vs.length := Paired.length rv
  refine PySem.W.kdx_collect (knd := mixKind X.prog X.w) (kvs := vs) (ep := ep) (I.ok.hd hc) ⟨_, Heap.get?_push_size _ rfl, rfl, rfl⟩ (hat.push _) (by omega) fun h' tk as hk hl hG => ?_
  obtain ⟨H2, k1, k2, k3, I3⟩ := tups_laid (tk := tk) I2 rv hk hl hG
  have kp := keep_of k1
  refine hW _ _ ⟨H2, as.map V.ref, I3, LiI.vals_refs as, by rw [List.length_map, hl]; omega, _, es, pairs_data k3 kp rk, hsd, fun p zs hn rz => ?_⟩
  refine q H2 p zs k1 ?_ hn rz
  cases g : H p with
  | none => rfl
  | some ob => rw [k1 p ob g] at hn; cases hn
def sortedIF (fe : EF) : EF := fun env S => (fe env S).bind fun x => (dictOf x.2 x.1).bind fun kvs => (sortD (itemsD kvs)).map fun es => (.loc x.2.length, x.2 ++ [.lst es])
theorem RS.same {K : PySem.W.Frag} {H H2 : Hp} {A : List Addr} {S : Sto} (h : RS K H A S) (k : ∀ b ob, H b = some ob → H2 b = some ob) : RS K H2 A S := ⟨h.len, h.nd, fun n a o e q => by
  obtain ⟨x, hx, _⟩ := h.there e
  exact (h.ob n a o e q).keep (keep_of k) ((k a x hx).trans hx.symm)⟩
theorem pv_sortedI {X : Cx} {e : Expr} {te : TE} {fe : EF} {p pos apos cpos : Pos} (hc : X.calm = true) (he : PV X e te fe) (hg : Gl X "sorted") (hm : X.mg "sorted" = none) (hbase : attributeBase e "items" X.env (eval e X.env) = eval e X.env := by rfl) (hline : (apos.endLine == cpos.line) = true := by rfl)
    (hs : starEach [.Call (.Attribute e "items" apos) [] [] cpos] X.env = (false, eval (.Call (.Attribute e "items" apos) [] [] cpos) X.env) :: starEach [] X.env := by rfl) (hpl : (backTo pos (starEach [] X.env)).any (·.1) = false := by rfl) :
    PV X (.Call (.Name "sorted" p) [.Call (.Attribute e "items" apos) [] [] cpos] [] pos) (fun σ H Q => te σ H fun y H1 => rSortedI2 X.K y H1 Q) (sortedIF fe) := by
  refine ⟨pe_sortedI hc he.pe hg hm hbase hline hs hpl, ?_⟩
  intro σ H A env S v S' hE hS hf Q hq
  obtain ⟨⟨x, S1⟩, e1, hf⟩ := Option.bind_eq_some_iff.mp hf
  obtain ⟨kvs, e2, hf⟩ := Option.bind_eq_some_iff.mp hf
  obtain ⟨es, e3, hf⟩ := Option.map_eq_some_iff.mp hf
  cases hf
  refine he.ok σ H A env S x S1 hE hS e1 _ fun u H1 A1 p1 k1 s1 r1 => ?_
  obtain ⟨d, kv, rfl, rd, rk⟩ := dictOf_ok s1 r1 e2
  exact ⟨d, kv, kvs, es, rfl, rd, rk, e3, fun H2 z zs k2 _ hz rz => hq _ _ _ (p1.trans (Pre.app A1 [z])) (k1.trans ((keep_of k2).trans (Keep.new hz))) ((s1.same k2).push hz ⟨zs, upd_same, rz⟩) s1.numL⟩
end
end Pv
set_option maxHeartbeats 4000000
/-! Pv12: products, list of a range, dict(), dict of a tuple of pairs, plain tuples and count, repr, is True, a, b = x, y. -/
namespace Pv
open PySem PySem.Spec PyProof.Rows L2

section
variable {X : Cx} {a b e c tg it o i : Expr} {es rest elts : List Expr} {ta tb te td ti tx : TE} {fa fb fe fd fx : EF} {pos p p2 tpos : Pos} {t : TT} {f : TF} {tA : TA} {fA : AF}
/-! ### tuple * int, list * int -/
theorem tuple_mul1 (l : Addr) (items : Array Value) (n : Nat) (dd : Option Addr) (sl : Array (Option Value)) (x : Int) (u : Tok) (c0 : (decide (x < -(2 ^ 63)) || decide (x ≥ 2 ^ 63)) = false) (c1 : (items.isEmpty || x == 1) = true) :
    Meets (Builtin.«tuple.__mul__» ⟨[.ref l, .int x u], []⟩) (fun _ R s => s.heap.get? l = some { cls := .type "tuple", dict := dd, data := .seq items n, slots := sl } ∧ R (.ok (.ret (Value.ref l))) s) :=
  .of_wp fun prog w A R s h => by
    obtain ⟨hp, g, d, tk, os⟩ := s
    obtain ⟨hl, h⟩ := h
    have f1 := AutoSeq1.idx_int
    wp_walk using wpAny_loadPart' hl
    repeat (first
      | (refine wpAny_ite_false (decide_eq_false (by rw [c0]; exact Bool.false_ne_true)) ?_; wp_walk using wpAny_loadPart' hl)
      | (refine wpAny_ite_true (decide_eq_true c1) ?_; wp_walk using wpAny_loadPart' hl))
    exact ⟨_, rfl, h⟩
theorem tuple_mul0 (l : Addr) (items : Array Value) (n : Nat) (dd : Option Addr) (sl : Array (Option Value)) (x : Int) (u : Tok) (c0 : (decide (x < -(2 ^ 63)) || decide (x ≥ 2 ^ 63)) = false) (c1 : (items.isEmpty || x == 1) = false) (c2 : (decide (x ≤ 0) || items.isEmpty) = true) :
    Meets (Builtin.«tuple.__mul__» ⟨[.ref l, .int x u], []⟩) (fun _ R s => s.heap.get? l = some { cls := .type "tuple", dict := dd, data := .seq items n, slots := sl } ∧
      R (.ok (.ret (Value.ref s.heap.objs.size))) { s with heap := s.heap.push { cls := Value.type "tuple", data := Data.seq #[] }, toks := s.toks }) :=
  .of_wp fun prog w A R s h => by
    obtain ⟨hp, g, d, tk, os⟩ := s
    obtain ⟨hl, h⟩ := h
    have f1 := AutoSeq1.idx_int
    wp_walk using wpAny_loadPart' hl
    repeat (first
      | (refine wpAny_ite_false (decide_eq_false (by rw [c0]; exact Bool.false_ne_true)) ?_; wp_walk using wpAny_loadPart' hl)
      | (refine wpAny_ite_false (decide_eq_false (by rw [c1]; exact Bool.false_ne_true)) ?_; wp_walk using wpAny_loadPart' hl)
      | (refine wpAny_ite_true (decide_eq_true c2) ?_; wp_walk using wpAny_loadPart' hl))
    exact ⟨_, rfl, h⟩
def rRep1 (K : PySem.W.Frag) : R2 := fun x y H Q => ∃ l k xs, x = .ref l ∧ y = .int k ∧ SqT K H l xs ∧ (xs = [] ∨ k = 1) ∧ -(2 ^ 63) ≤ k ∧ k < 2 ^ 63 ∧ Q (.ref l) H
def rRep0 (K : PySem.W.Frag) : R2 := fun x y H Q => ∃ l k xs, x = .ref l ∧ y = .int k ∧ SqT K H l xs ∧ xs ≠ [] ∧ -(2 ^ 63) ≤ k ∧ k ≤ 0 ∧ ∀ p, H p = none → Q (.ref p) (upd H p (.tup []))
theorem op_rep1 : OpR X (binaryOp .Mult) (rRep1 X.K) := by
  intro pins s σ H x y v u Q I rx ry h
  obtain ⟨l, k, xs, rfl, rfl, hT, hne, h1, h2, q⟩ := h
  cases rx
  obtain ⟨t, rfl⟩ := ry
  obtain ⟨its, r, ⟨⟨cls, dd, data, sl⟩, ho, hc, n, hd⟩, hs⟩ := I.tuple hT
  simp only at hc hd
  subst hc hd
  have c0 : (decide (k < -(2 ^ 63)) || decide (k ≥ 2 ^ 63)) = false := by
    rw [decide_eq_false (by omega), decide_eq_false (by omega)] <;> rfl
  have c1 : (its.toArray.isEmpty || k == 1) = true := by
    rcases hne with e | e
    · subst e
      cases r
      rfl
    · subst e; simp
  refine wpAny_binaryOp_repeat_ref (T := "tuple") (U := "int") (by decide) ⟨_, ho, rfl⟩ (fun s' => typeIs_int s' k t) noFill_tuple_mul F.fills_int_mul F.slot_int_rmul repeat_tuple F.slot_int_index.lookup
    (call_meets F.slot_int_rmul (typeIs_int s k t) F.entry_int_rmul (F.args_int_rmul_2 _ _) (int_rmul_tuple k t l its.toArray n dd sl)
      ⟨ho, rfl, ⟨_, ho, rfl⟩, call_meets F.slot_tuple_mul ⟨_, ho, rfl⟩ F.entry_tuple_mul (F.args_tuple_mul_2 _ _) (tuple_mul1 l its.toArray n dd sl k t c0 c1) ⟨ho, ?_⟩⟩)
  exact ⟨.ref l, H, I, rfl, q⟩
theorem op_rep0 : OpR X (binaryOp .Mult) (rRep0 X.K) := by
  intro pins s σ H x y v u Q I rx ry h
  obtain ⟨l, k, xs, rfl, rfl, hT, hne, h1, h2, q⟩ := h
  cases rx
  obtain ⟨t, rfl⟩ := ry
  obtain ⟨its, r, ⟨⟨cls, dd, data, sl⟩, ho, hc, n, hd⟩, hs⟩ := I.tuple hT
  simp only at hc hd
  subst hc hd
  have c0 : (decide (k < -(2 ^ 63)) || decide (k ≥ 2 ^ 63)) = false := by
    rw [decide_eq_false (by omega), decide_eq_false (by omega)] <;> rfl
  have hi : its.toArray.isEmpty = false := by
    cases its with
    | nil => cases r; exact absurd rfl hne
    | cons a b => rfl
  have c1 : (its.toArray.isEmpty || k == 1) = false := by
    rw [hi, Bool.false_or]
    exact beq_eq_false_iff_ne.mpr (by omega)
  have c2 : (decide (k ≤ 0) || its.toArray.isEmpty) = true := by rw [decide_eq_true h2]; rfl
  refine wpAny_binaryOp_repeat_ref (T := "tuple") (U := "int") (by decide) ⟨_, ho, rfl⟩ (fun s' => typeIs_int s' k t) noFill_tuple_mul F.fills_int_mul F.slot_int_rmul repeat_tuple F.slot_int_index.lookup
    (call_meets F.slot_int_rmul (typeIs_int s k t) F.entry_int_rmul (F.args_int_rmul_2 _ _) (int_rmul_tuple k t l its.toArray n dd sl)
      ⟨ho, rfl, ⟨_, ho, rfl⟩, call_meets F.slot_tuple_mul ⟨_, ho, rfl⟩ F.entry_tuple_mul (F.args_tuple_mul_2 _ _) (tuple_mul0 l its.toArray n dd sl k t c0 c1 c2) ⟨ho, ?_⟩⟩)
  refine ⟨.ref s.heap.objs.size, _, I.laid (t' := s.toks) (o := .tup []) (fun b ob q => Heap.get?_push_of_some _ q) (Nat.le_refl _) ?_, rfl, q _ (I.hok.fresh (Nat.le_refl _))⟩
  exact ⟨by simp, [], .nil, IsTup.new _ _⟩
def rMul (K : PySem.W.Frag) : R2 := fun x y H Q => (rI CMul (fun i j => .int (i * j)) x y H Q ∨ rI CMulW (fun i j => .int (i * j)) x y H Q) ∨ ((rRepT K x y H Q ∨ rRep1 K x y H Q) ∨ (rRep0 K x y H Q ∨ rRep x y H Q))
theorem op_mulA : OpR X (binaryOp .Mult) (rMul X.K) := (op_mul.or op_mulW).or ((op_repT.or op_rep1).or (op_rep0.or op_rep))
instance {i j : Int} : Decidable (CMulW i j) := inferInstanceAs (Decidable (_ < _))
/-- so many times -/
def repD (k : Int) (xs : List D) : List D := (List.replicate k.toNat xs).flatten
def mulT : Op2 := fun x y S => match x, y with
  | .p (.int i), .p (.int j) => if CMul i j ∨ CMulW i j then some (.p (.int (i * j)), S) else none
  | .p (.tuple xs), .p (.int k) => if -(2 ^ 63) ≤ k ∧ k ≤ 1000 ∧ xs.length ≤ 1000 then some (.p (.tuple (repD k xs)), S) else none
  | .loc n, .p (.int k) => match S[n]? with
    | some (.lst xs) => if -(2 ^ 63) ≤ k ∧ k < 2 ^ 63 ∧ xs.length * k.toNat ≤ sizeLine then some (.loc S.length, S ++ [.lst (repD k xs)]) else none
    | _ => none
  | _, _ => none
theorem Rps.rep {K : PySem.W.Frag} {H : Hp} {vs : List V} {ds : List D} (r : Rps K H vs ds) : ∀ k : Nat, Rps K H (List.replicate k vs).flatten (List.replicate k ds).flatten
  | 0 => .nil
  | k + 1 => by rw [List.replicate_succ, List.replicate_succ, List.flatten_cons, List.flatten_cons]; exact r.app (Rps.rep r k)
theorem mul_ok {K : PySem.W.Frag} : OpOk K (rMul K) mulT := by
  intro H A S x y a b v S' hs rx ry h Q hq
  unfold mulT at h
  split at h
  · next i j =>
    split at h
    · next hc =>
      cases h
      cases rx with
      | p rx => cases rx; cases ry with
        | p ry =>
          cases ry
          have q := hq (.int (i * j)) H A (Pre.refl A) (Keep.refl H) hs (.p (.int _))
          rcases hc with hc | hc
          · exact .inl (.inl ⟨i, j, rfl, rfl, hc, q⟩)
          · exact .inl (.inr ⟨i, j, rfl, rfl, hc, q⟩)
    · cases h
  · next xs k =>
    split at h
    · next hc =>
      cases h
      obtain ⟨l, vs, rfl, s, r⟩ := rx.tupOf
      cases ry with
      | p ry =>
        cases ry
        have hlen := r.length
        by_cases e0 : vs = []
        · have e1 : xs = [] := by subst e0; cases r; rfl
          subst e0; subst e1
          refine .inr (.inl (.inr ⟨l, k, [], rfl, rfl, s, .inl rfl, hc.1, by omega, hq _ H A (Pre.refl A) (Keep.refl H) hs (.p ?_)⟩))
          have : repD k [] = [] := by unfold repD; simp
          rw [this]
          exact .tup s .nil
        · by_cases e1 : k = 1
          · subst e1
            refine .inr (.inl (.inr ⟨l, 1, vs, rfl, rfl, s, .inr rfl, by decide, by decide, hq _ H A (Pre.refl A) (Keep.refl H) hs (.p ?_)⟩))
            have : repD 1 xs = xs := by unfold repD; simp
            rw [this]
            exact .tup s r
          · by_cases e2 : k ≤ 0
            · refine .inr (.inr (.inl ⟨l, k, vs, rfl, rfl, s, e0, hc.1, e2, fun z hz => hq _ _ A (Pre.refl A) (Keep.new hz) (hs.new hz) (.p ?_)⟩))
              have : repD k xs = [] := by unfold repD; rw [show k.toNat = 0 by omega]; rfl
              rw [this]
              exact .tup (SqT.of upd_same) .nil
            · exact .inr (.inl (.inl ⟨l, k, vs, rfl, rfl, s, e0, by omega, hc.2.1, by rw [hlen]; exact hc.2.2, fun z hz => hq _ _ A (Pre.refl A) (Keep.new hz) (hs.new hz) (.p (.tup (SqT.of upd_same) ((r.rep k.toNat).keep (Keep.new hz))))⟩))
    · cases h
  · next n k =>
    obtain ⟨l, rfl, e⟩ := rx.locOf
    split at h
    · next xs q =>
      split at h
      · next hc =>
        cases h
        obtain ⟨vs, h1, r1⟩ := hs.lstOf e q
        cases ry with
        | p ry =>
          cases ry
          exact .inr (.inr (.inr ⟨l, k, vs, rfl, rfl, h1, hc.1, hc.2.1, by rw [r1.length]; exact hc.2.2, fun z hz => hq _ _ _ (Pre.app A [z]) (Keep.new hz) (hs.newL hz ((r1.rep k.toNat))) hs.numL⟩))
      · cases h
    · cases h
  · cases h
theorem pv_mul (ha : PV X a ta fa) (hb : PV X b tb fb) : PV X (.BinOp a .Mult b pos) (tOp (rMul X.K) ta tb) (binF mulT fa fb) := pv_op op_mulA mul_ok ha hb

/-! ### list(range(n)) -/
def rgD (a b : Int) : List D := (List.range (b - a).toNat).map fun i => PyData.int (a + (i : Nat))
theorem rg_rps {K : PySem.W.Frag} {H : Hp} (a b : Int) : Rps K H (rgV a b) (rgD a b) := by
  unfold rgV rgD
  generalize List.range (b - a).toNat = l
  induction l with
  | nil => exact .nil
  | cons i l ih => exact .cons (.int _) ih
instance {a b : Int} : Decidable (RgOk a b) := inferInstanceAs (Decidable (_ ∧ _))
def lrg1F (fe : EF) : EF := fun env S => (fe env S).bind fun x => match x.1 with
  | .p (.int n) => if RgOk 0 n then some (.loc x.2.length, x.2 ++ [.lst (rgD 0 n)]) else none
  | _ => none
theorem pv_lrg1 (hc : X.calm = true) (hg : Gl X "list") (hm : X.mg "list" = none) (hg2 : Gl X "range") (hm2 : X.mg "range" = none) (he : PV X e te fe)
    (na : starEach [.Call (.Name "range" p) [e] [] pos] X.env = (false, eval (.Call (.Name "range" p) [e] [] pos) X.env) :: starEach [] X.env := by rfl) (nb : starEach [e] X.env = (false, eval e X.env) :: starEach [] X.env := by rfl) :
    PV X (.Call (.Name "list" p2) [.Call (.Name "range" p) [e] [] pos] [] tpos) (tLstRg (tRg1 te)) (lrg1F fe) := by
  refine ⟨pe_listRg hc hg hm (prg_1 hg2 hm2 he.pe nb) na, ?_⟩
  intro σ H A env S v S' hE hS hf Q hq
  obtain ⟨⟨x, S1⟩, e1, hf⟩ := Option.bind_eq_some_iff.mp hf
  simp only at hf
  split at hf
  · next n =>
    split at hf
    · next hr =>
      cases hf
      refine he.ok σ H A env S _ S1 hE hS e1 _ fun u H1 A1 p1 k1 s1 r1 => ?_
      cases r1 with
      | p r1 =>
        cases r1
        exact ⟨n, rfl, hr, fun z hz => hq _ _ _ (p1.trans (Pre.app A1 [z])) (k1.trans (Keep.new hz)) (s1.newL hz (rg_rps 0 n)) s1.numL⟩
    · cases hf
  · cases hf

/-! ### dict(), dict(tuple of pairs) -/
theorem cr_dict0 : CallR X (.type "dict") (fun xs H Q => xs = [] ∧ ∀ p, H p = none → Q (.ref p) (upd H p (.dK []))) := by
  intro pins s σ H xs us Q I r h
  obtain ⟨rfl, q⟩ := h
  cases r
  have hm : (s.heap.objs.size == sysModules) = false := beq_eq_false_iff_ne.mpr (Nat.ne_of_gt I.big)
  refine FK.call_dict0 ⟨.ref s.heap.objs.size, upd H s.heap.objs.size (.dK []), I.laid (t' := s.toks) (fun b o e => Heap.get?_push_of_some _ e) (Nat.le_refl _) (show ObjOk X.prog X.w _ _ _ (.dK []) from ⟨by simp, hm, [], .nil, Heap.DictOf.new s.heap⟩), rfl, q _ (I.hok.fresh (Nat.le_refl _))⟩
theorem pv_dict0 (hg : Gl X "dict") (hm : X.mg "dict" = none) : PV X (.Call (.Name "dict" p) [] [] pos) (tCB (fun xs H Q => xs = [] ∧ ∀ p, H p = none → Q (.ref p) (upd H p (.dK []))) tNil) dnewF :=
  ⟨pe_callTy0 cr_dict0 hg hm (by decide +kernel), fun σ H A env S v S' hE hS hf Q hq => ⟨rfl, dnew_ok σ H A env S v S' hE hS hf Q hq⟩⟩
/-! ### tuples known to be plain -/
/-- tuple(xs) of a list -/
def rTupF (K : PySem.W.Frag) : List V → Hp → VK → Prop := fun xs H Q => ∃ p ys, xs = [V.ref p] ∧ SqL K H p ys ∧ ∀ l ob, H l = none → ob.dict = none → Q (.ref l) (upd H l (.frz ob (.tup ys)))
theorem cr_tupF : CallR X (.type "tuple") (rTupF X.K) := by
  intro pins s σ H xs us Q I r h
  obtain ⟨p, ys, rfl, hq, q⟩ := h
  obtain ⟨u, rfl, rx⟩ := vals1 r
  cases rx
  obtain ⟨its, r', pl, hz⟩ := I.list hq
  have hlen := r'.length
  refine call_tuple_list pl.isList (fun h' kp => ?_) (by simp only [List.size_toArray] <;> omega)
  have I1 : Inv X pins σ H { s with heap := h' } := I.kept (t' := s.toks) kp
  have I2 : Inv X pins σ (upd H h'.objs.size (.frz { cls := .type "tuple", data := .seq its.toArray } (.tup ys))) { s with heap := h'.push { cls := .type "tuple", data := .seq its.toArray } } :=
    I1.laid (t' := s.toks) (fun b o e => Heap.get?_push_of_some _ e) (Nat.le_refl _) (show ObjOk X.prog X.w _ _ _ (.frz { cls := .type "tuple", data := .seq its.toArray } (.tup ys)) from ⟨Heap.get?_push_size _ rfl, hz, its, r', IsTup.new _ _⟩)
  exact ⟨.ref h'.objs.size, _, I2, rfl, q _ _ (I1.hok.fresh (Nat.le_refl _)) rfl⟩
def tupleFT : DF := fun ts S => match ts with
  | [t] => (lstOf S t).map fun ds => (.ft ds, S)
  | _ => none
theorem tupF_ok {K : PySem.W.Frag} : CallOk K (rTupF K) tupleFT := by
  intro H A S vs ts v S' hs rs h Q hq
  unfold tupleFT at h
  split at h
  · obtain ⟨x, rfl, r⟩ := rs.one
    obtain ⟨ds, e1, h⟩ := Option.map_eq_some_iff.mp h
    cases h
    obtain ⟨a, ws, rfl, hl, r1⟩ := lstOf_ok hs r e1
    exact ⟨a, ws, rfl, hl, fun p ob hp hd => hq _ _ A (Pre.refl A) (Keep.new hp) (hs.new hp) (.ft upd_same hd (r1.keep (Keep.new hp)))⟩
  · cases h
/-- dict(t) of a plain tuple of pairs -/
def rDictP (K : PySem.W.Frag) : List V → Hp → VK → Prop := fun xs H Q => ∃ (a : Addr) (ob : Obj) (ps : List Addr) (kvs : List (Key × V)), xs = [V.ref a] ∧ H a = some (.frz ob (.tup (ps.map V.ref))) ∧ ob.dict = none ∧ Paired (fun p kv => SqT K H p [kV kv.1, kv.2]) ps kvs ∧
  ∀ p, H p = none → Q (.ref p) (upd H p (.dK (mergeK [] kvs)))
theorem tup_plain {pins : List (Addr × Obj)} {σ : L2.St} {H : Hp} {s : Shared} {a : Addr} {ob : Obj} {vs : List V} (I : Inv X pins σ H s) (h : H a = some (.frz ob (.tup vs))) (hd : ob.dict = none) :
    ∃ (its : List Value) (n : Nat), Vals vs its ∧ vs.length ≤ sizeLine ∧ s.heap.get? a = some ob ∧ ob.cls = .type "tuple" ∧ ob.data = .seq its.toArray n := by
  obtain ⟨e, hz, its, r, o, ho, hc, n, hdat⟩ := I.hok a _ h
  rw [e] at ho
  cases ho
  exact ⟨its, n, r, hz, e, hc, hdat⟩
theorem cr_dictP (hcalm : X.calm = true) : CallR X (.type "dict") (rDictP X.K) := by
  intro pins s σ H xs us Q I r q
  obtain ⟨a, ob, ps, kvs, ex, ha, hdn, hp, q⟩ := q
  subst ex
  obtain ⟨u, eu, rx⟩ := vals1 r
  subst eu
  cases rx
  obtain ⟨its, n, rv, hz, ho, hc, hdat⟩ := tup_plain I ha hdn
  have ei := refs_at rv
  subst ei
  rw [List.length_map] at hz
  obtain ⟨prs, rel, hl, hpr⟩ := pairs_of I hp
  -- the pairs as keys and values
  have hkv : ∃ kvl : List (Value × Value), kvl.length = prs.length ∧ ∀ (j : Nat) (q : Value × Value), kvl[j]? = some q → ∃ b k, ps[j]? = some b ∧ IsTup s.heap b #[q.1, q.2] ∧ prs[j]? = some (k, q.2) ∧ keyIs k q.1 = true := by
    have : ∀ j, j < prs.length → ∃ u, ∃ b, ∃ q : Key × Value, prs[j]? = some q ∧ ps[j]? = some b ∧ IsTup s.heap b #[u, q.2] ∧ keyIs q.1 u = true := fun j hj => by
      obtain ⟨b, u, e1, e2, e3⟩ := hpr j _ (List.getElem?_eq_getElem hj)
      exact ⟨u, b, _, List.getElem?_eq_getElem hj, e1, e2, e3⟩
    refine ⟨(List.range prs.length).map fun j => if hj : j < prs.length then ((this j hj).choose, prs[j].2) else (.none, .none), by simp, fun j q e => ?_⟩
    rw [List.getElem?_map] at e
    cases g : (List.range prs.length)[j]? with
    | none => rw [g] at e; cases e
    | some j' =>
      have hj := (List.getElem?_eq_some_iff.mp g).1
      rw [List.length_range] at hj
      rw [List.getElem?_range hj] at g
      cases g
      rw [List.getElem?_range hj] at e
      simp only [Option.map_some, dif_pos hj] at e
      cases e
      obtain ⟨b, q, e1, e2, e3, e4⟩ := (this j hj).choose_spec
      rw [List.getElem?_eq_getElem hj] at e1
      cases e1
      exact ⟨b, _, e2, e3, List.getElem?_eq_getElem hj, e4⟩
  obtain ⟨kvl, hkl, hkv⟩ := hkv
  have hT : ∀ j, j < ps.length → ps[j]? = some (ps.getD j 0) := fun j hj => by simp [List.getD, List.getElem?_eq_getElem hj]
  refine PySem.call_dict_pairs (knd := mixKind X.prog X.w) (kvs := prs) (PairArg.tuple a (ps.map Value.ref).toArray (fun j => ps.getD j 0) kvl) (I.ok.hd hcalm)
    ⟨⟨ob, n, ho, hc, hdn, hdat⟩, by simp [hkl, hl], fun j k v e => ?_⟩ ⟨hkl.symm, fun i key v e => ?_⟩ (by omega) fun h' tk hd' k => ?_
  · obtain ⟨b, kk, e1, e2, e3, e4⟩ := hkv j _ e
    have hj : j < ps.length := by have := (List.getElem?_eq_some_iff.mp e).1; omega
    have : b = ps.getD j 0 := by rw [hT j hj] at e1; exact (Option.some.inj e1).symm
    subst this
    refine ⟨?_, .inl ?_⟩
    · rw [List.getElem?_toArray, List.getElem?_map, hT j hj]; rfl
    · exact e2
  · obtain ⟨b, kk, e1, e2, e3, e4⟩ := hkv i _ e
    exact ⟨kk, e3, e4⟩
  · have hm : (s.heap.objs.size == sysModules) = false := beq_eq_false_iff_ne.mpr (Nat.ne_of_gt I.big)
    have hlen : (mergeK [] kvs).length ≤ sizeLine := by
      refine Nat.le_trans (length_mergeK kvs []) ?_
      rw [List.length_nil, Nat.zero_add, rel.length, hl]
      exact hz
    exact ⟨.ref s.heap.objs.size, upd H s.heap.objs.size (.dK (mergeK [] kvs)), I.laid (t' := tk) (fun b o e => k b o (by simp) e) (Nat.le_refl _) (show ObjOk X.prog X.w _ _ _ (.dK (mergeK [] kvs)) from ⟨hlen, hm, merged [] prs, KV.merge rel .nil, hd'⟩), rfl, q _ (I.hok.fresh (Nat.le_refl _))⟩
def dictFT : DF := fun ts S => match ts with
  | [.ft ds] => (pairsOf ds).map fun kvs => (.loc S.length, S ++ [.dic (mergeD [] kvs)])
  | _ => none
theorem dictF_ok {K : PySem.W.Frag} : CallOk K (rDictP K) dictFT := by
  intro H A S vs ts v S' hs rs h Q hq
  unfold dictFT at h
  split at h
  · obtain ⟨x, rfl, r⟩ := rs.one
    obtain ⟨kvs, e, h⟩ := Option.map_eq_some_iff.mp h
    cases h
    cases r with
    | ft s d r =>
      obtain ⟨ps, kv, rfl, q2, q3⟩ := pairsOf_ok r e
      exact ⟨_, _, ps, kv, rfl, s, d, q2, fun z hz => hq _ _ _ (Pre.app A [z]) (Keep.new hz) (hs.push hz ⟨_, upd_same, ((RKV.merge q3 (kv := []) (kvs := []) .nil)).keep (Keep.new hz)⟩) (.loc (by rw [← hs.len]; simp))⟩
  · cases h
/-! t.count(i) of a plain tuple of ints in a slot -/
def tCnt (i : Nat) (te : TE) : TE := fun σ H Q => ∃ (a : Addr) (ob : Obj) (ns : List Int), σ[i]? = some (some (V.ref a)) ∧ H a = some (.frz ob (.tup (ns.map V.int))) ∧ ob.dict = none ∧ te σ H fun y H2 => ∃ k, y = .int k ∧ H2 a = some (.frz ob (.tup (ns.map V.int))) ∧ Q (.int (ns.count k : Nat)) H2
theorem intVals : ∀ {ns : List Int} {us : List Value}, Vals (ns.map V.int) us → ∀ k : Int, (us.countP fun y => match y with | .int j _ => j == k | _ => false) = ns.count k ∧ ∀ y ∈ us, ∃ j t, y = Value.int j t
  | [], _, r, k => by cases r; exact ⟨rfl, fun y h => by simp at h⟩
  | n :: ns, _, r, k => by
    cases r with
    | cons h t =>
      obtain ⟨tk, rfl⟩ := h
      obtain ⟨e1, e2⟩ := intVals t k
      refine ⟨by rw [List.countP_cons, e1, List.count_cons], fun y hy => ?_⟩
      rcases List.mem_cons.mp hy with rfl | hy
      · exact ⟨_, _, rfl⟩
      · exact e2 y hy
theorem pe_cnt {x : Str} {px apos cpos : Pos} (i : Nat) (ho : PE X (.Name x px) (tVar i)) (he : PE X e te)
    (hbase : attributeBase (.Name x px) "count" X.env (eval (.Name x px) X.env) = eval (.Name x px) X.env := by rfl)
    (hfew : ((backTo cpos (starEach [e] X.env)).all (fun x => !x.1) && (backToKw cpos (keywordEach [] X.env)).all (fun x => x.1.isSome)
      && decide ([e].length + ([] : List Keyword).length + (if ([] : List Keyword).isEmpty then 0 else 1) < 30)) = true := by rfl)
    (hline : (apos.endLine == cpos.line) = true := by rfl) (hs : starEach [e] X.env = (false, eval e X.env) :: starEach [] X.env := by rfl) (hplain : (backTo cpos (starEach [] X.env)).any (·.1) = false := by rfl) :
    PE X (.Call (.Attribute (.Name x px) "count" apos) [e] [] cpos) (tCnt i te) := by
  refine ⟨fun pins s σ H Q I h => ?_⟩
  obtain ⟨a, ob, ns, e1, ha, hd, h⟩ := h
  refine wpAny_Call_method_late hbase hfew hline rfl (thn (ho.run pins s σ H (fun v H1 => v = .ref a ∧ H1 = H) I ⟨_, e1, rfl, rfl⟩) fun v s1 ⟨x, H1, I1, r1, q1⟩ => ?_)
  obtain ⟨rfl, rfl⟩ := q1
  cases r1
  obtain ⟨its, n, rv, hz, ho1, hc, hdat⟩ := tup_plain I1 ha hd
  refine ⟨"tuple", "tuple.count", F.plainAttrs_tuple, F.slot_tuple_count, F.type_tuple_count, ⟨ob, ho1, hc⟩, fun b eb => by cases eb; exact ⟨ob, ho1, hd⟩, ?_⟩
  have hA := (pa_cons he pa_nil hs).run cpos pins s1 σ _ (fun vs H2 => match vs with | [y] => ∃ k, y = V.int k ∧ H2 a = some (.frz ob (.tup (ns.map V.int))) ∧ Q (.int (ns.count k : Nat)) H2 | _ => False) I1 h
  rw [hs] at hA ⊢
  refine Calls.callWith_builtin (by show (false || (backTo cpos (starEach [] X.env)).any (·.1)) = false; rw [hplain] <;> rfl) (Calls.evalArgs_plain ?_)
  refine thn hA fun us s2 ⟨vs, H2, I2, r2, q3⟩ => ?_
  simp only at q3
  split at q3
  case h_2 => exact q3.elim
  obtain ⟨k, rfl, ha2, q2⟩ := q3
  obtain ⟨u, rfl, ru⟩ := vals1 r2
  obtain ⟨tk, rfl⟩ := ru
  obtain ⟨its2, n2, rv2, hz2, ho2, hc2, hdat2⟩ := tup_plain I2 ha2 hd
  obtain ⟨ec, em⟩ := intVals rv2 k
  obtain ⟨cls, dd, data, sl⟩ := ob
  simp only at hc2 hdat2
  subst hc2 hdat2
  refine call_meets F.slot_tuple_count ⟨_, ho2, rfl⟩ F.entry_tuple_count (F.args_tuple_count_2 _ _) (SeqAt.tuple_countAt a its2.toArray n2 dd sl (.int k tk) fun y => match y with | .int j _ => j == k | _ => false) ⟨ho2, fun y hy => ?_, ?_⟩
  · obtain ⟨j, t', rfl⟩ := em y (by simpa using hy)
    exact SeqAt.EqAt.int_int j t' k tk
  · rw [show its2.toArray.toList = its2 from rfl, ec]
    exact ⟨.int _, H2, I2.tok _, ⟨_, rfl⟩, q2⟩
def cntF (i : Nat) (fe : EF) : EF := fun env S => match env[i]? with
  | some (some (.ft ds)) => (intsOf ds).bind fun ns => (fe env S).bind fun y => match y.1 with
    | .p (.int k) => some (.p (.int (ns.count k : Nat)), y.2)
    | _ => none
  | _ => none
theorem pv_cnt {x : Str} {px apos cpos : Pos} (i : Nat) (ho : PE X (.Name x px) (tVar i)) (he : PV X e te fe)
    (hbase : attributeBase (.Name x px) "count" X.env (eval (.Name x px) X.env) = eval (.Name x px) X.env := by rfl)
    (hfew : ((backTo cpos (starEach [e] X.env)).all (fun x => !x.1) && (backToKw cpos (keywordEach [] X.env)).all (fun x => x.1.isSome)
      && decide ([e].length + ([] : List Keyword).length + (if ([] : List Keyword).isEmpty then 0 else 1) < 30)) = true := by rfl)
    (hline : (apos.endLine == cpos.line) = true := by rfl) (hs : starEach [e] X.env = (false, eval e X.env) :: starEach [] X.env := by rfl) (hplain : (backTo cpos (starEach [] X.env)).any (·.1) = false := by rfl) :
    PV X (.Call (.Attribute (.Name x px) "count" apos) [e] [] cpos) (tCnt i te) (cntF i fe) := by
  refine ⟨pe_cnt i ho he.pe hbase hfew hline hs hplain, ?_⟩
  intro σ H A env S v S' hE hS hf Q hq
  unfold cntF at hf
  split at hf
  · next ds e1 =>
    obtain ⟨ns, e2, hf⟩ := Option.bind_eq_some_iff.mp hf
    obtain ⟨⟨y, S1⟩, e3, hf⟩ := Option.bind_eq_some_iff.mp hf
    simp only at hf
    split at hf
    · next k =>
      cases hf
      obtain ⟨u, e4, r⟩ := hE.2 i _ e1
      cases r with
      | @ft a ob vs _ s d r =>
        rw [intsOf_eq e2] at r
        obtain rfl := r.of_ints
        refine ⟨a, ob, ns, e4, s, d, he.ok σ H A env S _ _ hE hS e3 _ fun u H1 A1 p1 k1 s1 r1 => ?_⟩
        cases r1 with
        | p r1 =>
          cases r1
          exact ⟨k, rfl, k1.frt _ _ _ s, hq _ H1 A1 p1 k1 s1 (.p (.int _))⟩
    · cases hf
  · cases hf

/-! ### repr of a text, of None; is True -/
def rRepr : List V → Hp → VK → Prop := fun xs H Q => (∃ x, xs = [V.str x] ∧ (reprText x).length ≤ sizeLine ∧ Q (.str (reprText x)) H) ∨ (xs = [V.non] ∧ Q (.str "None") H)
theorem cr_repr : CallR X (.builtin "repr") rRepr := by
  intro pins s σ H xs us Q I r h
  rcases h with ⟨x, rfl, hz, q⟩ | ⟨rfl, q⟩
  · obtain ⟨u, rfl, ru⟩ := vals1 r
    obtain ⟨t, rfl⟩ := ru
    exact PySem.P.repr_of_str ⟨.str _, H, I.tok _, ⟨_, rfl⟩, q⟩ hz
  · obtain ⟨u, rfl, ru⟩ := vals1 r
    cases ru
    exact PySem.P.repr_of_none ⟨.str _, H, I.tok _, ⟨_, rfl⟩, q⟩
def reprT : DF := fun ts S => match ts with
  | [.p (.str x)] => if (reprText x).length ≤ sizeLine then some (.p (.str (reprText x)), S) else none
  | [.p .none] => some (.p (.str "None"), S)
  | _ => none
theorem repr_ok {K : PySem.W.Frag} : CallOk K rRepr reprT := by
  intro H A S vs ts v S' hs rs h Q hq
  unfold reprT at h
  split at h
  · split at h
    · next hz =>
      cases h
      obtain ⟨x, rfl, r⟩ := rs.one
      cases r with
      | p r => cases r; exact .inl ⟨_, rfl, hz, hq _ H A (Pre.refl A) (Keep.refl H) hs (.p (.str _))⟩
    · cases h
  · cases h
    obtain ⟨x, rfl, r⟩ := rs.one
    cases r with
    | p r => cases r; exact .inr ⟨rfl, hq _ H A (Pre.refl A) (Keep.refl H) hs (.p (.str _))⟩
  · cases h
def isB (neg : Bool) : Op2 := fun x y S => match x, y with
  | .p (.bool a), .p (.bool b) => some (.p (.bool (if neg then !decide (a = b) else decide (a = b))), S)
  | _, _ => none
theorem isB_ok {K : PySem.W.Frag} : OpOk K rIsB (isB false) := by
  intro H A S x y a b v S' hs rx ry h Q hq
  unfold isB at h
  split at h
  · cases h
    cases rx with
    | p rx => cases rx; cases ry with
      | p ry => cases ry; exact ⟨_, _, rfl, rfl, hq _ H A (Pre.refl A) (Keep.refl H) hs (.p (.bl _))⟩
  · cases h
theorem notB_ok {K : PySem.W.Frag} : OpOk K rNotB (isB true) := by
  intro H A S x y a b v S' hs rx ry h Q hq
  unfold isB at h
  split at h
  · cases h
    cases rx with
    | p rx => cases rx; cases ry with
      | p ry => cases ry; exact ⟨_, _, rfl, rfl, hq _ H A (Pre.refl A) (Keep.refl H) hs (.p (.bl _))⟩
  · cases h
theorem pv_isB (ha : PV X a ta fa) (hb : PV X b tb fb) : PV X (.Compare a [.Is] [b] pos) (tOp rIsB ta tb) (binF (isB false) fa fb) := pv_cmp op_isBl isB_ok ha hb (nomark _)
theorem pv_notB (ha : PV X a ta fa) (hb : PV X b tb fb) : PV X (.Compare a [.IsNot] [b] pos) (tOp rNotB ta tb) (binF (isB true) fa fb) := pv_cmp op_notBl notB_ok ha hb (nomark _)

/-! ### a, b = x, y with plain names: the new objects behind the old ones -/
def parS (i j : Nat) (fA : AF) : SF := fun _ env S => (fA env S).bind fun x => match x.1 with
  | [a, b] => (gcTs S.length x.2.length [a, b] []).bind fun y => match y.1 with
    | [a', b'] => some (.nx, (env.set i (some a')).set j (some b'), gcOb S.length x.2 y.2)
    | _ => none
  | _ => none
theorem pvs_par {i j : Nat} {x y : Str} {px py pt : Pos} {kt k2 pt2} (hc : X.calm = true) (hN : X.N.Nodup) (hij : i ≠ j)
    (hx : X.env.scope.names.lookup x = some .local) (hy : X.env.scope.names.lookup y = some .local) (ha : PVA X [a, b] tA fA)
    (hw : swappedStores [.Tuple [.Name x px, .Name y py] kt pt] (.Tuple [a, b] k2 pt2) X.env = pure (some [x, y])) (hi : X.N[i]? = some x := by rfl) (hj : X.N[j]? = some y := by rfl)
    (hs : swapsWithSole [.Tuple [.Name x px, .Name y py] kt pt] (.Tuple [a, b] k2 pt2) pos.line X.env = pure false := by rfl) :
    PVS X (.Assign [.Tuple [.Name x px, .Name y py] kt pt] (.Tuple [a, b] k2 pt2) pos) (tPar i j tA) (parS i j fA) := by
  refine ⟨ps_par hc hN hi hj hij hx hy ha.pa hw hs, ?_⟩
  intro n σ H A env S o env' S' hn hE hS hf D hD
  obtain ⟨⟨x, S1⟩, e1, hf⟩ := Option.bind_eq_some_iff.mp hf
  simp only at hf
  split at hf
  · next u v =>
    obtain ⟨⟨y, us⟩, e2, hf⟩ := Option.bind_eq_some_iff.mp hf
    simp only at hf
    split at hf
    · next u' v' =>
      cases hf
      refine ha.ok σ H A env S _ S1 hE hS e1 _ fun vs H1 A1 p1 k1 r1 q1 => ?_
      have l1 : S.length ≤ S1.length := by have := p1.len; rw [hS.len, r1.len] at this; exact this
      obtain ⟨g, _, q⟩ := gcTs_ok r1 l1 (⟨by simp, fun _ h => by simp at h⟩ : GcU S.length S1.length []) q1 e2
      have q2 := q []
      rw [List.append_nil] at q2
      obtain ⟨w1, w2, rfl, qa, qb⟩ := q2.two
      have sm := gcA_same (A := A1) (n := S.length) (by rw [r1.len]; exact l1) us
      have pA : Pre A (gcA S.length A1 us) := fun i a e => sm i a (by rw [← hS.len]; exact (List.getElem?_eq_some_iff.mp e).1) (p1 i a e)
      exact ⟨w1, w2, rfl, hD H1 _ (pA.sameTo n) k1 (gcRS r1 l1 g) _ (((hE.keep k1 pA).set qa i).set qb j)⟩
    · cases hf
  · cases hf
end
end Pv
set_option maxHeartbeats 4000000
/-! Pv13: short words for the walks. -/
namespace Pv
open PySem PySem.Spec PyProof.Rows L2
section
variable {X : Cx} {a b e c tg it o i : Expr} {es rest elts : List Expr} {ta tb te td ti tx to : TE} {fa fb fe fd fx fo : EF} {pos p p2 tpos apos cpos : Pos} {t : TT} {f : TF} {tA : TA} {fA : AF}
theorem lt_ok {K : PySem.W.Frag} : OpOk K (rI0 fun i j => .bl (decide (i < j))) ltI := iop_ok0 fun i j H => .bl _
theorem le_ok {K : PySem.W.Frag} : OpOk K (rI0 fun i j => .bl (decide (i ≤ j))) leI := iop_ok0 fun i j H => .bl _
theorem gt_ok {K : PySem.W.Frag} : OpOk K (rI0 fun i j => .bl (decide (j < i))) gtI := iop_ok0 fun i j H => .bl _
theorem ge_ok {K : PySem.W.Frag} : OpOk K (rI0 fun i j => .bl (decide (j ≤ i))) geI := iop_ok0 fun i j H => .bl _
theorem pv_append (ho : PV X o to fo) (ha : PVA X [e] tA fA) (hbase : attributeBase o "append" X.env (eval o X.env) = eval o X.env := by rfl)
    (hfew : ((backTo cpos (starEach [e] X.env)).all (fun x => !x.1) && (backToKw cpos (keywordEach [] X.env)).all (fun x => x.1.isSome)
      && decide ([e].length + ([] : List Keyword).length + (if ([] : List Keyword).isEmpty then 0 else 1) < 30)) = true := by rfl)
    (hline : (apos.endLine == cpos.line) = true := by rfl) (hs : starEach [e] X.env = (false, eval e X.env) :: starEach [] X.env := by rfl) (hplain : (backTo cpos (starEach [] X.env)).any (·.1) = false := by rfl) :
    PV X (.Call (.Attribute o "append" apos) [e] [] cpos) (tBM X.K "list" rAppend to tA) (methF appendT fo fA) :=
  ⟨pe_bm PySem.F.plainAttrs_list PySem.F.slot_list_append PySem.F.type_list_append mt_append ho.pe ha.pa hbase hfew hline hs hplain, meth_ok append_ok ho.ok ha.ok⟩
theorem pv_popAt (ho : PV X o to fo) (ha : PVA X [e] tA fA) (hbase : attributeBase o "pop" X.env (eval o X.env) = eval o X.env := by rfl)
    (hfew : ((backTo cpos (starEach [e] X.env)).all (fun x => !x.1) && (backToKw cpos (keywordEach [] X.env)).all (fun x => x.1.isSome)
      && decide ([e].length + ([] : List Keyword).length + (if ([] : List Keyword).isEmpty then 0 else 1) < 30)) = true := by rfl)
    (hline : (apos.endLine == cpos.line) = true := by rfl) (hs : starEach [e] X.env = (false, eval e X.env) :: starEach [] X.env := by rfl) (hplain : (backTo cpos (starEach [] X.env)).any (·.1) = false := by rfl) :
    PV X (.Call (.Attribute o "pop" apos) [e] [] cpos) (tBM X.K "list" rPopAt to tA) (methF popAtT fo fA) :=
  ⟨pe_bm PySem.F.plainAttrs_list PySem.F.slot_list_pop PySem.F.type_list_pop mt_popAt ho.pe ha.pa hbase hfew hline hs hplain, meth_ok popAt_ok ho.ok ha.ok⟩
/-! the same with the frame told: what is read must not name the context -/
theorem pv_addK (K : PySem.W.Frag) (ha : PV X a ta fa) (hb : PV X b tb fb) (hK : X.K = K := by rfl) : PV X (.BinOp a .Add b pos) (tOp (rAdd K) ta tb) (binF addT fa fb) := by subst hK; exact pv_add ha hb
theorem pv_mulK (K : PySem.W.Frag) (ha : PV X a ta fa) (hb : PV X b tb fb) (hK : X.K = K := by rfl) : PV X (.BinOp a .Mult b pos) (tOp (rMul K) ta tb) (binF mulT fa fb) := by subst hK; exact pv_mul ha hb
theorem pv_eqK (K : PySem.W.Frag) (hu : X.A.units + 64 < cLine) (ha : PV X a ta fa) (hb : PV X b tb fb) (hK : X.K = K := by rfl) : PV X (.Compare a [.Eq] [b] pos) (tOp (rEqD K) ta tb) (binF (eqT false) fa fb) := by subst hK; exact pv_eq hu ha hb
theorem pv_neK (K : PySem.W.Frag) (hu : X.A.units + 64 < cLine) (ha : PV X a ta fa) (hb : PV X b tb fb) (hK : X.K = K := by rfl) : PV X (.Compare a [.NotEq] [b] pos) (tOp (rNeD K) ta tb) (binF (eqT true) fa fb) := by subst hK; exact pv_ne hu ha hb
theorem op_eqDK (K : PySem.W.Frag) (hu : X.A.units + 64 < cLine) (hK : X.K = K := by rfl) : OpR X (compareOp .Eq) (rEqD K) := by subst hK; exact op_eqD hu
theorem op_neDK (K : PySem.W.Frag) (hu : X.A.units + 64 < cLine) (hK : X.K = K := by rfl) : OpR X (compareOp .NotEq) (rNeD K) := by subst hK; exact op_neD hu
theorem pv_ixsK (K : PySem.W.Frag) (ha : PV X a ta fa) (hb : PV X b tb fb) (hs : PlainIx b) (hK : X.K = K := by rfl) : PV X (.Subscript a b pos) (tOp (rIx K) ta tb) (binF ixT fa fb) := by subst hK; exact pv_ixs ha hb hs
def rLenK (K : PySem.W.Frag) : List V → Hp → VK → Prop := fun xs H Q => (∃ p ys, xs = [V.ref p] ∧ (SqL K H p ys ∨ SqT K H p ys) ∧ Q (V.int (ys.length : Nat)) H) ∨ ((∃ x, xs = [.str x] ∧ x.length ≤ sizeLine ∧ Q (.int (x.length : Nat)) H) ∨ (∃ p ys, xs = [V.ref p] ∧ H p = some (.dK ys) ∧ Q (.int (ys.length : Nat)) H))
theorem pv_lenK (K : PySem.W.Frag) {p : Pos} (hg : Gl X "len") (hm : X.mg "len" = none) (ha : PV X e te fe) (hK : X.K = K := by rfl) (hs : starEach [e] X.env = (false, eval e X.env) :: starEach [] X.env := by rfl) (hn : ((backTo pos (starEach [] X.env)).any fun x => x.1) = false := by rfl) :
    PV X (.Call (.Name "len" p) [e] [] pos) (tCB (rLenK K) (tCons te tNil)) (argF lenT (consF fe nilF)) := by subst hK; exact pv_len hg hm ha hs hn
theorem pv_isiK (K : PySem.W.Frag) {cn : String} {x : Str} {p pc : Pos} (ha : PV X e te fe) (hg : Gl X "isinstance") (hm : X.mg "isinstance" = none) (hgc : Gl X x) (hmc : X.mg x = none) (hv : bootBuiltins x = some (.type cn)) (hK : X.K = K := by rfl) (hn : x ≠ "__name__" := by decide) (hd : (x == ("__debug__" : Str)) = false := by decide)
    (hs : starEach [e, .Name x pc] X.env = (false, eval e X.env) :: starEach [.Name x pc] X.env := by rfl) (hs2 : starEach [.Name x pc] X.env = (false, eval (.Name x pc) X.env) :: starEach [] X.env := by rfl) (hn2 : ((backTo pos (starEach [.Name x pc] X.env)).any fun x => x.1) = false := by rfl) :
    PV X (.Call (.Name "isinstance" p) [e, .Name x pc] [] pos) (tCB (rIsi K) (tCons te (tCons (tC (.ty cn)) tNil))) (isiF cn fe) := by subst hK; exact pv_isi ha hg hm hgc hmc hv hn hd hs hs2 hn2
theorem pvg_tupK (K : PySem.W.Frag) {k : Nat} {g : TGs} {ks : GFs} {n : Nat} (hc : X.calm = true) (h : PVGs X es g ks) (hK : X.K = K := by rfl) (hn : (assignEach es X.env).length = n := by rfl) (hst : (assignEach es X.env).findIdx? (·.1) = none := by rfl) : PVG X (.Tuple es k pos) (gTup K n g) (tupG n ks) := by subst hK; exact pvg_tup hc h hn hst
theorem pv_sliceK (K : PySem.W.Frag) {lo hi : Option Expr} {tl th : TO} {fl fh : OF} (he : PV X e te fe) (hl : PVO X lo tl fl) (hu : PVO X hi th fh) (hK : X.K = K := by rfl) : PV X (.Subscript e (.Slice lo hi none p2) pos) (tSl (rSlT2 K) te tl th) (sliceF fe fl fh) := by subst hK; exact pv_slice he hl hu
theorem pv_revLK (K : PySem.W.Frag) {k : Nat} {p1 p2 p3 pos : Pos} (he : PV X e te fe) (hK : X.K = K := by rfl) : PV X (.Subscript e (.Slice none none (some (.UnaryOp .USub (.Constant (.int 1) k p1) p2)) p3) pos) (tRevL K te) (revF fe) := by subst hK; exact pv_revL he
theorem pv_callK (K : PySem.W.Frag) {k : Nat} {f : Addr} {fd : FuncData} {ps : List Str} {n : Nat} {g : DF} {x : Str} {p : Pos} (F : FnOk X.prog X.w K X.mg X.base CX0 k f fd ps (spF K n g)) (hr : Room k X.A) (hg : Gl X x) (hm : X.mg x = some (.ref f)) (hk : PySem.W.keepIn K (.ref f) = true) (hb : Binds K fd ps [])
    (ha : PVA X (e :: es) tA fA) (hK : X.K = K := by rfl) (hd : (x == ("__debug__" : Str)) = false := by decide) (hs : starEach (e :: es) X.env = (false, eval e X.env) :: starEach es X.env := by rfl) (hn : ((backTo pos (starEach es X.env)).any fun x => x.1) = false := by rfl) :
    PV X (.Call (.Name x p) (e :: es) [] pos) (tCall (spF K n g) [] E0 tA) (callF n g fA) := by subst hK; exact pv_call F hr hg hm hk hb ha hd hs hn
theorem pv_appendK (K : PySem.W.Frag) (ho : PV X o to fo) (ha : PVA X [e] tA fA) (hK : X.K = K := by rfl) (hbase : attributeBase o "append" X.env (eval o X.env) = eval o X.env := by rfl)
    (hfew : ((backTo cpos (starEach [e] X.env)).all (fun x => !x.1) && (backToKw cpos (keywordEach [] X.env)).all (fun x => x.1.isSome)
      && decide ([e].length + ([] : List Keyword).length + (if ([] : List Keyword).isEmpty then 0 else 1) < 30)) = true := by rfl)
    (hline : (apos.endLine == cpos.line) = true := by rfl) (hs : starEach [e] X.env = (false, eval e X.env) :: starEach [] X.env := by rfl) (hplain : (backTo cpos (starEach [] X.env)).any (·.1) = false := by rfl) :
    PV X (.Call (.Attribute o "append" apos) [e] [] cpos) (tBM K "list" rAppend to tA) (methF appendT fo fA) := by subst hK; exact pv_append ho ha hbase hfew hline hs hplain
theorem pv_popAtK (K : PySem.W.Frag) (ho : PV X o to fo) (ha : PVA X [e] tA fA) (hK : X.K = K := by rfl) (hbase : attributeBase o "pop" X.env (eval o X.env) = eval o X.env := by rfl)
    (hfew : ((backTo cpos (starEach [e] X.env)).all (fun x => !x.1) && (backToKw cpos (keywordEach [] X.env)).all (fun x => x.1.isSome)
      && decide ([e].length + ([] : List Keyword).length + (if ([] : List Keyword).isEmpty then 0 else 1) < 30)) = true := by rfl)
    (hline : (apos.endLine == cpos.line) = true := by rfl) (hs : starEach [e] X.env = (false, eval e X.env) :: starEach [] X.env := by rfl) (hplain : (backTo cpos (starEach [] X.env)).any (·.1) = false := by rfl) :
    PV X (.Call (.Attribute o "pop" apos) [e] [] cpos) (tBM K "list" rPopAt to tA) (methF popAtT fo fA) := by subst hK; exact pv_popAt ho ha hbase hfew hline hs hplain
theorem cr_allK (K : PySem.W.Frag) (hc : X.calm = true) (hK : X.K = K := by rfl) : CallR X (.builtin "all") (rAll K) := by subst hK; exact cr_all hc
theorem cr_anyK (K : PySem.W.Frag) (hc : X.calm = true) (hK : X.K = K := by rfl) : CallR X (.builtin "any") (rAny K) := by subst hK; exact cr_any hc
theorem cr_sumK (K : PySem.W.Frag) (hc : X.calm = true) (hK : X.K = K := by rfl) : CallR X (.builtin "sum") (rSum K) := by subst hK; exact cr_sum hc
theorem cr_maxK (K : PySem.W.Frag) (hc : X.calm = true) (hK : X.K = K := by rfl) : CallR X (.builtin "max") (rMax K) := by subst hK; exact cr_max hc
theorem cr_minK (K : PySem.W.Frag) (hc : X.calm = true) (hK : X.K = K := by rfl) : CallR X (.builtin "min") (rMin K) := by subst hK; exact cr_min hc
theorem cr_sortedK (K : PySem.W.Frag) (hK : X.K = K := by rfl) : CallR X (.builtin "sorted") (rSortedQ K) := by subst hK; exact cr_sortedQ
theorem cr_tupFK (K : PySem.W.Frag) (hK : X.K = K := by rfl) : CallR X (.type "tuple") (rTupF K) := by subst hK; exact cr_tupF
theorem cr_dictPK (K : PySem.W.Frag) (hc : X.calm = true) (hK : X.K = K := by rfl) : CallR X (.type "dict") (rDictP K) := by subst hK; exact cr_dictP hc
theorem cr_tupleK (K : PySem.W.Frag) (hK : X.K = K := by rfl) : CallR X (.type "tuple") (fun xs H Q => ∃ p ys, xs = [.ref p] ∧ ((SqL K H p ys ∧ ∀ (l : Addr), H l = none → Q (V.ref l) (upd H l (HO.tup ys))) ∨ SqT K H p ys ∧ Q (V.ref p) H)) := by subst hK; exact call_tuple_of
theorem cr_listK (K : PySem.W.Frag) (hK : X.K = K := by rfl) : CallR X (.type "list") (fun xs H Q => ∃ p ys, xs = [V.ref p] ∧ (SqL K H p ys ∨ SqT K H p ys) ∧ ∀ (l : Addr), H l = none → Q (V.ref l) (upd H l (HO.lst ys))) := by subst hK; exact call_list_of
theorem cr_dictLK (K : PySem.W.Frag) (hc : X.calm = true) (hK : X.K = K := by rfl) : CallR X (.type "dict") (fun xs H Q => ∃ (a : Addr) (ps : List Addr) (kvs : List (Key × V)), xs = [.ref a] ∧ SqL K H a (ps.map V.ref) ∧ Paired (fun p kv => SqT K H p [kV kv.1, kv.2]) ps kvs ∧ ∀ p, H p = none → Q (.ref p) (upd H p (.dK (mergeK [] kvs)))) := by subst hK; exact call_dictP hc
/-- def_ok with the lengths told -/
theorem def_okN {P : Program} {w : World} {K : PySem.W.Frag} {mg : Str → Option Value} {base : Heap} {x qual : Str} {st : Stmt} {f : Addr} {fd : FuncData} {N ps : List Str} (k : Nat) {sb : SF} {np n : Nat} {m : DF} (F : Fun K x qual st f fd) (S : FnScope N ps (defScope st)) (hp : ps.length = np) (hn : N.length = n) (hm : m = defF n sb)
    (hbody : ∀ (cdv : Value) (A : Around) (outer : List PySem.Env) (s : Shared) (H : Hp) (E : XK), Room k (A.deeper (envOfC qual (defScope st) s.heap.objs.size f cdv)) →
      ∃ t, PVB (cxOf CX0 P w K mg base N qual (defScope st) f cdv A outer s H E).nox (defBody st) t sb) : FnOk P w K mg base CX0 (k + 1) f fd ps (spF K np m) := by
  subst hp hn hm
  exact def_ok F S hbody
/-- a def as its callers see it -/
def Def (P : Program) (w : World) (K : PySem.W.Frag) (mg : Str → Option Value) (base : Heap) (x : Str) (k : Nat) (ps : List Str) (n : Nat) (g : DF) : Prop :=
  ∃ (f : Addr) (fd : FuncData), FnOk P w K mg base CX0 k f fd ps (spF K n g) ∧ mg x = some (.ref f) ∧ PySem.W.keepIn K (.ref f) = true ∧ Binds K fd ps []
end
end Pv
set_option maxHeartbeats 4000000
/-! Pv14: list(zip(a, b)) of two lists, the first one's items ints or texts. -/
namespace Pv
open PySem PySem.Spec PyProof.Rows L2
theorem lz_nolen : typeLookup (.type "zip") "__len__" = pure none := by rw [typeLookup_type, builtinLookup_eq_fast]; kernel_rfl
theorem lz_nohint : typeLookup (.type "zip") "__length_hint__" = pure none := by rw [typeLookup_type, builtinLookup_eq_fast]; kernel_rfl
section
variable {prog : Program} {w : World} {knd : KeyKind prog w Key} {A : Around} {E : Value → Shared → Prop} {s : Shared} {R : Result → Shared → Prop} {kvs : List (Key × Value)} {xs ys : Array Value} {S z TI TO i1 i2 l1 l2 : Addr}
/-- the zip stands at its i-th turn -/
def LzSt (S z TI TO i1 i2 l1 l2 : Addr) (xs ys : Array Value) (i : Nat) (h : Heap) : Prop := IsPair h TI (.ref i1) (.ref i2) ∧ h.IsListIter i1 l1 i ∧ h.IsListIter i2 l2 i ∧ h.IsList l1 xs ∧ h.IsList l2 ys ∧
  ((IsZip h z TI TO .none ∧ ∃ a b, IsPair h TO a b) ∨ ∃ T f oT, IsZipHeld h z TI TO T f ∧ h.get? T = some oT ∧ T ≠ z ∧ T ≠ i1 ∧ T ≠ i2 ∧ T ≠ S)
structure LzAt (S z TI TO i1 i2 l1 l2 : Addr) : Prop where
  z : z < S
  TI : TI < S
  TO : TO < S
  i1 : i1 < S
  i2 : i2 < S
  l1 : l1 < S
  l2 : l2 < S
theorem LzSt.frame {i : Nat} {h h' : Heap} (L : LzAt S z TI TO i1 i2 l1 l2) (st : LzSt S z TI TO i1 i2 l1 l2 xs ys i h) (hk : ∀ b o, b ≠ S → h.get? b = some o → h'.get? b = some o) : LzSt S z TI TO i1 i2 l1 l2 xs ys i h' := by
  obtain ⟨hTI, h1, h2, hl1, hl2, hz⟩ := st
  have n : ∀ {c : Addr}, c < S → c ≠ S := fun h => Nat.ne_of_lt h
  refine ⟨hk _ _ (n L.TI) hTI, h1.at fun o e => hk _ o (n L.i1) e, h2.at fun o e => hk _ o (n L.i2) e, hl1.at fun o e => hk _ o (n L.l1) e, hl2.at fun o e => hk _ o (n L.l2) e, ?_⟩
  rcases hz with ⟨hz, a, b, hTO⟩ | ⟨T, f, oT, hz, hT, r1, r2, r3, r4⟩
  · exact .inl ⟨hk _ _ (n L.z) hz, a, b, hk _ _ (n L.TO) hTO⟩
  · exact .inr ⟨T, f, oT, hk _ _ (n L.z) hz, hk _ _ r4 hT, r1, r2, r3, r4⟩
theorem lz_item {i : Nat} {x y : Value} {Q : Option Value → Shared → Prop} (D : ZipApart z TI TO i1 i2 l1 l2) (L : LzAt S z TI TO i1 i2 l1 l2) (hS : S < s.heap.objs.size) (st : LzSt S z TI TO i1 i2 l1 l2 xs ys i s.heap) (ex : xs[i]? = some x) (ey : ys[i]? = some y)
    (hQ : ∀ h', LzSt S z TI TO i1 i2 l1 l2 xs ys (i + 1) h' → h'.get? s.heap.objs.size = some { cls := .type "tuple", data := .seq #[x, y] } → (∀ c o, c ≠ z → c ≠ TO → c ≠ i1 → c ≠ i2 → s.heap.get? c = some o → h'.get? c = some o) → Q (some (.ref s.heap.objs.size)) { s with heap := h' }) :
    wpAny (model prog w) A (pyNext (.ref z)) Q E s := by
  obtain ⟨hTI, h1, h2, hl1, hl2, hz⟩ := st
  have lt : ∀ {c o}, s.heap.get? c = some o → s.heap.objs.size ≠ c := fun e => Nat.ne_of_gt (Heap.lt_size e)
  have n1 : s.heap.objs.size ≠ i1 := let ⟨_, e, _⟩ := h1; lt e
  have n2 : s.heap.objs.size ≠ i2 := let ⟨_, e, _⟩ := h2; lt e
  rcases hz with ⟨hz, a, b, hTO⟩ | ⟨T, f, oT, hz, hT, r1, r2, r3, r4⟩
  · refine wpAny_pyNext_zip_item D hz hTI hTO h1 h2 hl1 hl2 ex ey fun h' a1 a2 a3 a4 a5 a6 hk => ?_
    exact hQ h' ⟨hk _ _ D.TIz D.TITO D.TIi1 D.TIi2 hTI, a3, a4, hl1.at fun o e => hk _ o D.l1z D.l1TO D.l1i1 D.l1i2 e, hl2.at fun o e => hk _ o D.l2z D.l2TO D.l2i1 D.l2i2 e,
      .inr ⟨s.heap.objs.size, false, _, a1, a5, lt hz, n1, n2, Nat.ne_of_gt hS⟩⟩ a5 hk
  · refine wpAny_pyNext_zip_item_held D hz hT hTI h1 h2 hl1 hl2 ex ey fun h' a1 a3 a4 a5 a6 hk => ?_
    exact hQ h' ⟨hk _ _ D.TIz D.TIi1 D.TIi2 hTI, a3, a4, hl1.at fun o e => hk _ o D.l1z D.l1i1 D.l1i2 e, hl2.at fun o e => hk _ o D.l2z D.l2i1 D.l2i2 e,
      .inr ⟨T, true, oT, a1, hk _ _ r1 r2 r3 hT, r1, r2, r3, r4⟩⟩ a5 fun c o c1 _ c2 c3 e => hk c o c1 c2 c3 e
theorem lz_done {i : Nat} {Q : Option Value → Shared → Prop} (hh : A.handled = none) (D : ZipApart z TI TO i1 i2 l1 l2) (st : LzSt S z TI TO i1 i2 l1 l2 xs ys i s.heap) (hend : xs[i]? = none ∨ ys[i]? = none)
    (hQ : ∀ h', (∀ c o, c ≠ z → c ≠ TO → c ≠ i1 → c ≠ i2 → s.heap.get? c = some o → h'.get? c = some o) → Q none { s with heap := h' }) : wpAny (model prog w) A (pyNext (.ref z)) Q E s := by
  obtain ⟨hTI, h1, h2, hl1, hl2, hz⟩ := st
  rcases hz with ⟨hz, a, b, hTO⟩ | ⟨T, f, oT, hz, hT, r1, r2, r3, r4⟩
  · exact wpAny_pyNext_zip_end hh D hz hTI hTO h1 h2 hl1 hl2 hend hQ
  · exact wpAny_pyNext_zip_end_held hh D hz hT hTI h1 h2 hl1 hl2 hend fun h' hk => hQ h' fun c o c1 _ c2 c3 e => hk c o c1 c2 c3 e
/-- what is zipped, by keys and values -/
def LzKv (knd : KeyKind prog w Key) (xs ys : Array Value) (kvs : List (Key × Value)) : Prop := kvs.length = min xs.size ys.size ∧ ∀ (j : Nat) (k : Key) (v : Value), kvs[j]? = some (k, v) → ∃ key, xs[j]? = some key ∧ knd.is k key = true ∧ ys[j]? = some v
theorem lz_loop (hh : A.handled = none) (D : ZipApart z TI TO i1 i2 l1 l2) (L : LzAt S z TI TO i1 i2 l1 l2) (hkv : LzKv knd xs ys kvs) (hn : kvs.length ≤ sizeLine) (res : Value) {h₁ : Heap}
    (hR : ∀ h' tk acc c as, (∀ b o, b ≠ S → b ≠ z → b ≠ TO → b ≠ i1 → b ≠ i2 → h₁.get? b = some o → h'.get? b = some o) → h'.get? S = some { cls := .type "list", dict := none, data := .seq acc c, slots := #[] } → as.length = kvs.length → PySem.W.KdxG knd kvs S h' as →
      acc.toList = as.map Value.ref → R (.ok (.ret res)) { s with heap := h', toks := tk }) :
    ∀ (k i : Nat) (h : Heap) (tk c : Nat) (acc : Array Value) (as : List Addr), kvs.length - i = k → i ≤ kvs.length → LzSt S z TI TO i1 i2 l1 l2 xs ys i h → (∀ b o, b ≠ S → b ≠ z → b ≠ TO → b ≠ i1 → b ≠ i2 → h₁.get? b = some o → h.get? b = some o) →
      h.get? S = some { cls := .type "list", dict := none, data := .seq acc c, slots := #[] } → acc.toList = as.map Value.ref → as.length = i → PySem.W.KdxG knd kvs S h as →
      codeAny (model prog w) A (.builtin "list.extend.loop" ⟨[.ref S, .ref z, res], []⟩) R { s with heap := h, toks := tk } := by
  have n : ∀ {c : Addr}, c < S → S ≠ c := fun h => Nat.ne_of_gt h
  intro k
  induction k with
  | zero =>
    intro i h tk c acc as hk hi hst hkeep hS hacc hal hG
    have hin : i = kvs.length := by omega
    have hend : xs[i]? = none ∨ ys[i]? = none := by
      rw [hin, hkv.1]
      rcases Nat.le_total xs.size ys.size with h | h
      · exact .inl (Array.getElem?_eq_none (by rw [Nat.min_eq_left h]; exact Nat.le_refl _))
      · exact .inr (Array.getElem?_eq_none (by rw [Nat.min_eq_right h]; exact Nat.le_refl _))
    refine codeAny_builtin PySem.F.entry_extend_loop ?_
    rw [Around.under_plainId PySem.F.plain_extend_loop _]
    show wpAny _ A.in1 (pyNext (.ref z) >>= _) _ _ _
    refine wpAny_bind (lz_done (s := { s with heap := h, toks := tk }) (A := A.in1) hh D hst hend fun h' he => ?_)
    refine wpAny_pure (hR h' tk acc c as (fun b o h0 h1 h2 h3 h4 e => he b o h1 h2 h3 h4 (hkeep b o h0 h1 h2 h3 h4 e)) (he S _ (n L.z) (n L.TO) (n L.i1) (n L.i2) hS) (by omega) ⟨hG.rise, hG.above, fun j a hj => ?_⟩ hacc)
    obtain ⟨key, kk, x, e1, e2, e3⟩ := hG.pairs j a hj
    have ha := hG.above a (List.mem_of_getElem? hj)
    have m : ∀ {c : Addr}, c < S → a ≠ c := fun h => Nat.ne_of_gt (Nat.lt_trans h ha)
    exact ⟨key, kk, x, e1, e2, he a _ (m L.z) (m L.TO) (m L.i1) (m L.i2) e3⟩
  | succ k ih =>
    intro i h tk c acc as hk hi hst hkeep hS hacc hal hG
    have hlt : i < kvs.length := by omega
    obtain ⟨⟨kk, x⟩, hx⟩ : ∃ p, kvs[i]? = some p := ⟨kvs[i], List.getElem?_eq_getElem hlt⟩
    obtain ⟨key, ex, hkey, ey⟩ := hkv.2 i kk x hx
    have hsz : acc.size = i := by rw [← Array.length_toList, hacc, List.length_map, hal]
    have hSl : S < h.objs.size := Heap.lt_size hS
    refine codeAny_builtin PySem.F.entry_extend_loop ?_
    rw [Around.under_plainId PySem.F.plain_extend_loop _]
    show wpAny _ A.in1 (pyNext (.ref z) >>= _) _ _ _
    refine wpAny_bind (lz_item (s := { s with heap := h, toks := tk }) D L hSl hst ex ey fun h' hst' ht hkp => ?_)
    dsimp only at ht hkp ⊢
    have hS' := hkp S _ (n L.z) (n L.TO) (n L.i1) (n L.i2) hS
    have up : ∀ b o, b ≠ S → h'.get? b = some o → (h'.update S (Obj.mapSeq (·.push (Value.ref h.objs.size)))).get? b = some o := fun b o hb e => (Heap.get?_update_other _ _ (Ne.symm hb)).trans e
    show wpAny _ A.in1 (updateSeq S (·.push (Value.ref h.objs.size)) >>= _) _ _ _
    refine wpAny_bind ?_
    refine wpAny_updateSeq hS' rfl (wpAny_pure ⟨plainId_quiet PySem.F.plain_extend_loop _, ih (i + 1) _ tk _ (acc.push (Value.ref h.objs.size)) (as ++ [h.objs.size]) (by omega) hlt (hst'.frame L up)
      (fun b o h0 h1 h2 h3 h4 e => up b o h0 (hkp b o h1 h2 h3 h4 (hkeep b o h0 h1 h2 h3 h4 e))) (Heap.get?_update_self _ hS' rfl) (by rw [Array.toList_push, hacc, List.map_append]; rfl) (by rw [List.length_append, hal]; rfl) ⟨?_, ?_, ?_⟩⟩) (by rw [hsz]; omega) (by show (acc.push (Value.ref h.objs.size)).size ≤ sizeLine + 1; rw [Array.size_push, hsz]; omega)
    · refine List.pairwise_append.mpr ⟨hG.rise, List.pairwise_singleton _ _, fun a ha b hb => ?_⟩
      rw [List.mem_singleton.mp hb]
      exact hG.there ha
    · intro a ha
      rcases List.mem_append.mp ha with ha | ha
      · exact hG.above a ha
      · rw [List.mem_singleton.mp ha]; exact hSl
    · intro j b hj
      rcases Nat.lt_trichotomy j as.length with h1 | h1 | h1
      · rw [List.getElem?_append_left h1] at hj
        obtain ⟨key', k', x', e1, e2, e3⟩ := hG.pairs j b hj
        have hb := hG.above b (List.mem_of_getElem? hj)
        have m : ∀ {c : Addr}, c < S → b ≠ c := fun h => Nat.ne_of_gt (Nat.lt_trans h hb)
        exact ⟨key', k', x', e1, e2, up b _ (Nat.ne_of_gt hb) (hkp b _ (m L.z) (m L.TO) (m L.i1) (m L.i2) e3)⟩
      · subst h1
        have hb : h.objs.size = b := by simpa using hj
        subst hb
        exact ⟨key, kk, x, by rw [hal]; exact hx, hkey, up _ _ (Nat.ne_of_gt hSl) ht⟩
      · have hnone : (as ++ [h.objs.size])[j]? = none := List.getElem?_eq_none (by rw [List.length_append, List.length_singleton]; omega)
        rw [hnone] at hj; cases hj
theorem lz_extend (hh : A.handled = none) (D : ZipApart z TI TO i1 i2 l1 l2) (L : LzAt S z TI TO i1 i2 l1 l2) (hkv : LzKv knd xs ys kvs) (hn : kvs.length ≤ sizeLine) (res : Value) (c₀ : Nat)
    (hst : LzSt S z TI TO i1 i2 l1 l2 xs ys 0 s.heap) (hz0 : IsZip s.heap z TI TO .none) (hS : s.heap.get? S = some { cls := .type "list", data := .seq #[] c₀ })
    (hR : ∀ h' tk acc c as, (∀ b o, b ≠ S → b ≠ z → b ≠ TO → b ≠ i1 → b ≠ i2 → s.heap.get? b = some o → h'.get? b = some o) → h'.get? S = some { cls := .type "list", dict := none, data := .seq acc c, slots := #[] } → as.length = kvs.length → PySem.W.KdxG knd kvs S h' as →
      acc.toList = as.map Value.ref → R (.ok (.ret res)) { s with heap := h', toks := tk }) :
    wpAny (model prog w) A.in1 (Builtin.List.listExtendWith (.ref S) (.ref z) res)
      (fun fin s' => match fin with | .done f => R (.ok f) s' | .again c' => c'.quiet = true ∧ codeAny (model prog w) A c' R s') (fun e s' => R (.error e) s') s := by
  have hSz : S ≠ z := Nat.ne_of_gt L.z
  have hTy : ∀ s' : Shared, s'.heap = s.heap → s'.TypeIs (.ref z) "zip" := fun s' e => ⟨_, by rw [e]; exact hz0, rfl⟩
  unfold Builtin.List.listExtendWith
  refine wpAny_bind (wpAny_typeOf (hTy _ rfl) ?_)
  have h1 : Builtin.List.listSameRef (.ref S) (.ref z) = false := by simp [Builtin.List.listSameRef, hSz]
  have h2 : (Value.type "zip" == Value.type "list") = false := by decide
  have h3 : (Value.type "zip" == Value.type "tuple") = false := by decide
  simp only [h1, h2, h3, Bool.or_false, Bool.false_eq_true, if_false]
  have hit : wpAny (model prog w) A.in1 (pyIter (.ref z)) (fun v s' => v = .ref z ∧ s' = s) (fun e s' => R (.error e) s') s := wpAny_pyIter_zip hz0 ⟨rfl, rfl⟩
  refine wpAny_bind (wpAny_mono hit (fun v s' hv => ?_) fun _ _ e => e)
  obtain ⟨rfl, rfl⟩ := hv
  refine wpAny_bind (wpAny_holding ?_)
  unfold Builtin.List.listLengthHint
  refine wpAny_bind (wpAny_specialOf (hTy _ rfl) lz_nolen ?_)
  show wpAny _ A.in1 (specialOf (Value.ref z) (Str.ofString "__length_hint__") >>= _) _ _ _
  refine wpAny_bind (wpAny_specialOf (hTy _ rfl) lz_nohint ?_)
  refine wpAny_pure ?_
  show wpAny _ A.in1 (rule "list.extend.makes-room" >>= fun _ => Builtin.List.listTouch (.ref S) >>= fun _ =>
    again (.builtin "list.extend.loop" ⟨[.ref S, .ref z, res], []⟩)) _ _ _
  refine wpAny_bind (wpAny_rule ?_)
  refine wpAny_bind ?_
  show wpAny _ A.in1 (updateSeq S (·.push .none) >>= fun _ => updateSeq S (·.pop)) _ _ _
  refine wpAny_bind (wpAny_updateSeq hS rfl ?_)
  have hS₂ := Heap.get?_update_self (Obj.mapSeq (·.push Value.none)) hS rfl
  refine wpAny_updateSeq (hz := by seq_fits) hS₂ rfl ?_
  have hS₃ := Heap.get?_update_self (Obj.mapSeq (·.pop)) hS₂ rfl
  have oth : ∀ b o, b ≠ S → s'.heap.get? b = some o → ((s'.heap.update S (Obj.mapSeq (·.push Value.none))).update S (Obj.mapSeq (·.pop))).get? b = some o :=
    fun b o hb e => (Heap.get?_update_other _ _ (Ne.symm hb)).trans ((Heap.get?_update_other _ _ (Ne.symm hb)).trans e)
  exact wpAny_pure ⟨plainId_quiet PySem.F.plain_extend_loop _, lz_loop hh D L hkv hn res (fun h' tk acc c as hk hS' hl hG hacc => hR h' tk acc c as hk hS' hl hG hacc) kvs.length 0 _ _ _ _ [] (Nat.sub_zero _) (Nat.zero_le _)
    (hst.frame L oth) (fun b o h0 _ _ _ _ e => oth b o h0 e) hS₃ rfl rfl ⟨List.Pairwise.nil, (fun _ ha => nomatch ha), (fun j a hj => by simp at hj)⟩⟩
theorem lz_init (hh : A.handled = none) (D : ZipApart z TI TO i1 i2 l1 l2) (L : LzAt S z TI TO i1 i2 l1 l2) (hkv : LzKv knd xs ys kvs) (hn : kvs.length ≤ sizeLine)
    (hst : LzSt S z TI TO i1 i2 l1 l2 xs ys 0 s.heap) (hz0 : IsZip s.heap z TI TO .none) (hS : s.heap.get? S = some { cls := .type "list", data := .seq #[] })
    (hR : ∀ h' tk acc c as, (∀ b o, b ≠ S → b ≠ z → b ≠ TO → b ≠ i1 → b ≠ i2 → s.heap.get? b = some o → h'.get? b = some o) → h'.get? S = some { cls := .type "list", dict := none, data := .seq acc c, slots := #[] } → as.length = kvs.length → PySem.W.KdxG knd kvs S h' as →
      acc.toList = as.map Value.ref → R (.ok (.ret .none)) { s with heap := h', toks := tk }) :
    wpAny (model prog w) A.in1 (Builtin.«list.__init__» ⟨[.ref S, .ref z], []⟩)
      (fun fin s' => match fin with | .done f => R (.ok f) s' | .again c' => c'.quiet = true ∧ codeAny (model prog w) A c' R s') (fun e s' => R (.error e) s') s := by
  show wpAny _ _ (do let old ← Builtin.List.listItems (.ref S); Builtin.List.listUpdate (.ref S) (fun _ => #[]); letGo old.toList.reverse; Builtin.List.listExtendWith (.ref S) (.ref z) .none) _ _ s
  refine wpAny_bind ?_
  unfold Builtin.List.listItems
  refine wpAny_bind (wpAny_seqItems hS rfl (wpAny_pure ?_))
  show wpAny _ _ (updateSeq S (fun _ => #[]) >>= fun _ => letGo (#[] : Array Value).toList.reverse >>= fun _ => Builtin.List.listExtendWith (.ref S) (.ref z) .none) _ _ s
  refine wpAny_bind (wpAny_updateSeq hS rfl ?_)
  have hS₂ := Heap.get?_update_self (Obj.mapSeq (fun _ => (#[] : Array Value))) hS rfl
  have oth : ∀ b o, b ≠ S → s.heap.get? b = some o → (s.heap.update S (Obj.mapSeq (fun _ => (#[] : Array Value)))).get? b = some o :=
    fun b o hb e => (Heap.get?_update_other _ _ (Ne.symm hb)).trans e
  refine wpAny_bind (wpAny_letGo ?_)
  refine lz_extend hh D L hkv hn .none _ (hst.frame L oth) (oth _ _ (Nat.ne_of_lt L.z) hz0) hS₂ (fun h' tk acc c as hk hS' hl hG hacc => ?_)
  exact hR h' tk acc c as (fun b o h0 h1 h2 h3 h4 e => hk b o h0 h1 h2 h3 h4 (oth b o h0 e)) hS' hl hG hacc
theorem lz_call {Q : Value → Shared → Prop} (hh : A.handled = none) (D : ZipApart z TI TO i1 i2 l1 l2) (L : LzAt s.heap.objs.size z TI TO i1 i2 l1 l2) (hkv : LzKv knd xs ys kvs) (hn : kvs.length ≤ sizeLine)
    (hst : ∀ h : Heap, (∀ b o, s.heap.get? b = some o → h.get? b = some o) → LzSt s.heap.objs.size z TI TO i1 i2 l1 l2 xs ys 0 h) (hz0 : IsZip s.heap z TI TO .none)
    (hQ : ∀ h' tk acc c as, (∀ b o, b ≠ z → b ≠ TO → b ≠ i1 → b ≠ i2 → s.heap.get? b = some o → h'.get? b = some o) → h'.get? s.heap.objs.size = some { cls := .type "list", dict := none, data := .seq acc c, slots := #[] } → as.length = kvs.length → PySem.W.KdxG knd kvs s.heap.objs.size h' as →
      acc.toList = as.map Value.ref → Q (.ref s.heap.objs.size) { s with heap := h', toks := tk }) :
    wpAny (model prog w) A (call (.type "list") [.ref z]) Q E s := by
  refine callType_codes (Q₁ := fun obj s₁ => obj = .ref s.heap.objs.size ∧ s₁ = { s with heap := s.heap.push { cls := .type "list", data := .seq #[] } }) PySem.F.called_list (PySem.F.typeCall_list_1 _) PySem.F.entry_list_init
    (code_list_new _ ⟨rfl, rfl⟩) fun obj s₁ h₁ => ?_
  obtain ⟨rfl, rfl⟩ := h₁
  have hS : (s.heap.push { cls := .type "list", data := .seq #[] }).get? s.heap.objs.size = some { cls := .type "list", data := .seq #[] } := Heap.get?_push_size _ rfl
  refine ⟨⟨_, hS, rfl⟩, PySem.F.args_list_init_2 _ _, lz_init (A := A.in1) hh D L hkv hn (hst _ fun b o e => Heap.get?_push_of_some _ e) (Heap.get?_push_of_some _ hz0) hS (fun h' tk acc c as hk hS' hl hG hacc => ?_)⟩
  exact ⟨rfl, hQ h' tk acc c as (fun b o h1 h2 h3 h4 e => hk b o (Nat.ne_of_lt (Heap.lt_size e)) h1 h2 h3 h4 (Heap.get?_push_of_some _ e)) hS' hl hG hacc⟩
end
section
variable {X : Cx} {a b e : Expr} {pos p p2 tpos : Pos} {tA : TA} {fA : AF}
/-- a new list of new pairs, at once -/
theorem pairs_laid {pins : List (Addr × Obj)} {σ : L2.St} {H : Hp} {s : Shared} {h' : Heap} {tk : Nat} {kv : List (Key × V)} {vs : List (Key × Value)} {acc : Array Value} {c : Nat} {as : List Addr} {p : Addr} (I : Inv X pins σ H s) (hz : kv.length ≤ sizeLine) (rv : KV kv vs)
    (hk : ∀ b o, s.heap.get? b = some o → h'.get? b = some o) (hp : s.heap.objs.size ≤ p) (hS : h'.get? p = some { cls := .type "list", dict := none, data := .seq acc c, slots := #[] }) (hl : as.length = vs.length) (hG : PySem.W.KdxG (mixKind X.prog X.w) vs p h' as) (hacc : acc.toList = as.map Value.ref) :
    ∃ H' : Hp, (∀ b o, H b = some o → H' b = some o) ∧ H p = none ∧ p ∉ as ∧ H' p = some (.lst (as.map V.ref)) ∧ Paired (fun (t : Addr) (q : Key × V) => H' t = some (.tup [kV q.1, q.2])) as kv ∧ Inv X pins σ H' { s with heap := h', toks := tk } := by
  have e0 : kv.length = vs.length := Paired.length rv
  have up : ∀ t ∈ as, s.heap.objs.size ≤ t := fun t ht => Nat.le_trans hp (Nat.le_of_lt (hG.above t ht))
  have pn : p ∉ as := fun z => absurd (hG.above _ z) (Nat.lt_irrefl _)
  have fr : ∀ t ∈ as, H t = none := fun t ht => I.hok.fresh (up t ht)
  have frp : H p = none := I.hok.fresh hp
  have tP := LiI.putT_at as kv (upd H p (.lst (as.map V.ref))) (by omega) (hG.rise.imp fun h => Nat.ne_of_lt h)
  have away : ∀ b, b ∉ as → b ≠ p → LiI.putT (upd H p (.lst (as.map V.ref))) as kv b = H b := fun b x1 x2 => (LiI.putT_off as kv _ x1).trans (upd_ne x2)
  have below : ∀ b o, s.heap.get? b = some o → b ∉ as ∧ b ≠ p := fun b o e => by
    have hb := Heap.lt_size e
    exact ⟨fun z => Nat.lt_irrefl _ (Nat.lt_of_lt_of_le hb (up b z)), Nat.ne_of_lt (Nat.lt_of_lt_of_le hb hp)⟩
  have same : ∀ b u, H b = some u → LiI.putT (upd H p (.lst (as.map V.ref))) as kv b = some u := fun b u e => by
    refine (away b (fun z => ?_) fun z => ?_).trans e
    · rw [fr b z] at e; cases e
    · subst z; rw [frp] at e; cases e
  have atp : LiI.putT (upd H p (.lst (as.map V.ref))) as kv p = some (.lst (as.map V.ref)) := (LiI.putT_off as kv _ pn).trans upd_same
  refine ⟨_, same, frp, pn, atp, tP, I.call' (ch := []) rfl ?_ (fun b u q => ?_) I.bare fun b z => by simp at z⟩
  · exact ⟨fun b o q _ _ _ => hk b o q, fun b o q _ _ _ => ⟨o.slots, hk b o q⟩, fun b o q n _ => (away b (below b o q).1 (below b o q).2).trans n, fun b o q _ => ⟨o, hk b o q⟩, fun b xs q => same b _ q, fun b o u q => same b _ q, fun b ps q => ⟨#[], by rw [same b _ q, Array.append_empty]⟩⟩
  · by_cases hb : b ∈ as
    · obtain ⟨j, pk, g1, g2, g3⟩ := LiI.paired_ix tP hb
      obtain rfl : u = .tup [kV pk.1, pk.2] := Option.some.inj (q.symm.trans g3)
      obtain ⟨key, k, x, f1, f2, f3⟩ := hG.pairs j b g1
      obtain ⟨qv, w1, w2, w3⟩ := LiI.paired_get rv g2
      obtain rfl : qv = (k, x) := Option.some.inj (w1.symm.trans f1)
      have rk : RelV (kV pk.1) key := w2 ▸ relV_key (show keyIs k key = true from f2)
      exact ⟨show 2 ≤ sizeLine by decide, [key, x], .cons rk (.cons w3 .nil), _, f3, rfl, _, rfl⟩
    · by_cases hb2 : b = p
      · subst hb2
        obtain rfl : u = .lst (as.map V.ref) := Option.some.inj (q.symm.trans atp)
        refine ⟨by rw [List.length_map]; omega, acc.toList, c, hacc ▸ LiI.vals_refs as, ?_⟩
        exact (Array.toArray_toList (xs := acc)).symm ▸ hS
      · rw [away b hb hb2] at q
        exact (I.hok b u q).stay (fun d v _ y => hk d v y) (fun d y => same d _ y) fun d xs y => same d _ y
/-- list(zip(xs, ys)), the items of xs keys: new pairs, told as a dict's would be -/
def tLzip (K : PySem.W.Frag) (tA : TA) : TE := fun σ H Q => tA σ H fun vs H1 => ∃ (a b : Addr) (kv : List (Key × V)) (xs ys : List V), vs = [V.ref a, V.ref b] ∧ SqL K H1 a xs ∧ SqL K H1 b ys ∧ kv.length = min xs.length ys.length ∧
  (∀ (j : Nat) (q : Key × V), kv[j]? = some q → xs[j]? = some (kV q.1) ∧ ys[j]? = some q.2) ∧
  ∀ (H' : Hp) (as : List Addr) (l : Addr), (∀ c ob, H1 c = some ob → H' c = some ob) → Paired (fun (c : Addr) (q : Key × V) => H' c = some (.tup [kV q.1, q.2])) as kv → H1 l = none → l ∉ as → H' l = some (.lst (as.map V.ref)) → Q (.ref l) H'
theorem pe_lzip (hc : X.calm = true) (hg : Gl X "list") (hm : X.mg "list" = none) (hg2 : Gl X "zip") (hm2 : X.mg "zip" = none) (ha : PA X [a, b] tA)
    (na : starEach [.Call (.Name "zip" p) [a, b] [] pos] X.env = (false, eval (.Call (.Name "zip" p) [a, b] [] pos) X.env) :: starEach [] X.env := by rfl) (nb : starEach [a, b] X.env = (false, eval a X.env) :: starEach [b] X.env := by rfl) (hpl : (backTo pos (starEach [b] X.env)).any (·.1) = false := by rfl) :
    PE X (.Call (.Name "list" p2) [.Call (.Name "zip" p) [a, b] [] pos] [] tpos) (tLzip X.K tA) := by
  refine ⟨fun pins s σ H Q I h => ?_⟩
  refine Call_ (ld_blt I hg hm boot_list (PyProof.Rows.callWith_type1 (args_cons ?_ na) na))
  refine Call_ (ld_blt I hg2 hm2 PyProof.Rows.boot_zip (PyProof.Rows.callWith_type1 (thn (ha.run pos pins s σ H _ I h) fun us s1 ⟨vs, H1, I1, r1, q1⟩ => ?_) nb hpl))
  obtain ⟨a, b, kv, xs, ys, ex, hqx, hqy, hkl, hkx, q⟩ := q1
  subst ex
  cases r1 with
  | cons r rr =>
    cases rr with
    | cons r' rr =>
      cases rr
      cases r
      cases r'
      obtain ⟨its, rv, p1, hz1⟩ := I1.list hqx
      obtain ⟨its2, rv2, p2, hz2⟩ := I1.list hqy
      have hl1 := rv.length
      have hl2 := rv2.length
      refine call_zip_2 p1.isList p2.isList fun h' hz hTI hTO h1 h2 hsz hk => ?_
      refine args_nil ?_
      have I2 : Inv X pins σ H1 { s1 with heap := h' } := I1.kept (t' := s1.toks) hk
      have la := p1.lt
      have lb := p2.lt
      have D := PySem.W.ktu_apart s1.heap.objs.size a b la lb
      -- keys and values
      have hkv : ∃ kvs : List (Key × Value), KV kv kvs ∧ LzKv (mixKind X.prog X.w) its.toArray its2.toArray kvs := by
        have pt : ∀ j, j < kv.length → ∃ (key : Value) (v : Value), its[j]? = some key ∧ its2[j]? = some v ∧ ∀ q, kv[j]? = some q → RelV (kV q.1) key ∧ RelV q.2 v := fun j hj => by
          have e := List.getElem?_eq_getElem hj
          obtain ⟨e1, e2⟩ := hkx j _ e
          obtain ⟨key, f1, g1⟩ := rv.get e1
          obtain ⟨v, f2, g2⟩ := rv2.get e2
          exact ⟨key, v, f1, f2, fun q eq => by rw [e] at eq; cases eq; exact ⟨g1, g2⟩⟩
        refine ⟨(List.range kv.length).map fun j => if hj : j < kv.length then (kv[j].1, (pt j hj).choose_spec.choose) else (.inl 0, .none), ?_, ?_, fun j k v e => ?_⟩
        · have : ∀ (n : Nat), n ≤ kv.length → KV (kv.take n) ((List.range n).map fun j => if hj : j < kv.length then (kv[j].1, (pt j hj).choose_spec.choose) else (.inl 0, .none)) := fun n => by
            induction n with
            | zero => intro _; exact .nil
            | succ n ih =>
              intro hn
              have hn' : n < kv.length := hn
              rw [List.range_succ, List.map_append, List.take_succ, List.getElem?_eq_getElem hn']
              have key := (pt n hn').choose_spec.choose_spec.2.2 _ (List.getElem?_eq_getElem hn')
              have app : ∀ {l₁ l₂ : List (Key × V)} {m₁ m₂ : List (Key × Value)}, KV l₁ m₁ → KV l₂ m₂ → KV (l₁ ++ l₂) (m₁ ++ m₂) := fun {l₁ l₂ m₁ m₂} x y => by
                induction x with
                | nil => exact y
                | cons h t ih => exact .cons h ih
              refine app (ih (by omega)) ?_
              simp only [List.map_cons, List.map_nil, dif_pos hn', Option.toList]
              exact .cons ⟨rfl, key.2⟩ .nil
          have := this kv.length (Nat.le_refl _)
          rwa [List.take_length] at this
        · simp [hkl, hl1, hl2]
        · rw [List.getElem?_map] at e
          cases g : (List.range kv.length)[j]? with
          | none => rw [g] at e; cases e
          | some j' =>
            have hj := (List.getElem?_eq_some_iff.mp g).1
            rw [List.length_range] at hj
            rw [List.getElem?_range hj] at g e
            cases g
            simp only [Option.map_some, dif_pos hj] at e
            cases e
            have sp := (pt j hj).choose_spec.choose_spec
            have key := sp.2.2 _ (List.getElem?_eq_getElem hj)
            exact ⟨(pt j hj).choose, by simpa using sp.1, kV_is (P := X.prog) (w := X.w) key.1, by simpa using sp.2.1⟩
      obtain ⟨kvs, rkv, hkv⟩ := hkv
      have hlen : kvs.length ≤ sizeLine := by
        have := hkv.1
        simp only [List.size_toArray] at this
        omega
      have lt : ∀ k : Nat, k < 5 → s1.heap.objs.size + k < h'.objs.size := fun k hk => by rw [hsz]; exact Nat.add_lt_add_left hk _
      have lt0 : ∀ c : Addr, c ≤ s1.heap.objs.size → c < h'.objs.size := fun c hc => by rw [hsz]; exact Nat.lt_of_le_of_lt hc (Nat.lt_add_of_pos_right (by decide))
      refine lz_call (s := { s1 with heap := h' }) (I2.ok.hd hc) D ⟨lt 4 (by decide), lt 2 (by decide), lt 3 (by decide), lt0 _ (Nat.le_refl _), lt 1 (by decide), lt0 _ (Nat.le_of_lt la), lt0 _ (Nat.le_of_lt lb)⟩ hkv hlen
        (fun h k => ⟨k _ _ hTI, h1.at fun o e => k _ o e, h2.at fun o e => k _ o e, (p1.isList.at fun o e => k _ o (hk _ o e)), (p2.isList.at fun o e => k _ o (hk _ o e)), .inl ⟨k _ _ hz, _, _, k _ _ hTO⟩⟩) hz fun h'' tk acc c as hk2 hS hl hG hacc => ?_
      have old : ∀ b o, s1.heap.get? b = some o → h''.get? b = some o := fun b o e => by
        have hb := Heap.lt_size e
        exact hk2 b o (Nat.ne_of_lt (Nat.lt_add_right 4 hb)) (Nat.ne_of_lt (Nat.lt_add_right 3 hb)) (Nat.ne_of_lt hb) (Nat.ne_of_lt (Nat.lt_add_right 1 hb)) (hk b o e)
      obtain ⟨H', k1, k2, k3, k4, k5, J⟩ := pairs_laid (tk := tk) I1 (by omega) rkv old (Nat.le_of_lt (lt0 _ (Nat.le_refl _))) hS hl hG hacc
      exact ⟨.ref _, H', J, rfl, q H' as _ k1 k5 k2 k3 k4⟩
/-- the list joins the store -/
theorem RS.add {K : PySem.W.Frag} {H : Hp} {A : List Addr} {S : Sto} {p : Addr} {ob : O} (h : RS K H A S) (hn : p ∉ A) (q : RO K H p ob) : RS K H (A ++ [p]) (S ++ [ob]) := by
  refine ⟨by simp [h.len], ?_, fun i a ob' e q' => ?_⟩
  · rw [List.nodup_append]
    refine ⟨h.nd, by simp, fun a ha b hb => ?_⟩
    have : b = p := by simpa using hb
    subst this
    exact fun z => hn (z ▸ ha)
  · by_cases hi : i < A.length
    · rw [List.getElem?_append_left hi] at e
      rw [List.getElem?_append_left (h.len ▸ hi)] at q'
      exact h.ob i a ob' e q'
    · have hi' : A.length ≤ i := Nat.le_of_not_lt hi
      rw [List.getElem?_append_right hi'] at e
      rw [List.getElem?_append_right (h.len ▸ hi')] at q'
      have z : i - A.length = 0 := by
        have := (List.getElem?_eq_some_iff.mp e).1
        simp at this; omega
      rw [z] at e
      rw [h.len] at z
      rw [z] at q'
      simp at e q'
      subst e; subst q'
      exact q
def keysD : List D → Option (List Key)
  | [] => some []
  | d :: ds => (keyOf d).bind fun k => (keysD ds).map fun ks => k :: ks
def lzipF (fA : AF) : EF := fun env S => (fA env S).bind fun x => match x.1 with
  | [a, b] => (lstOf x.2 a).bind fun u => (keysD u).bind fun _ => (lstOf x.2 b).map fun v => (.loc x.2.length, x.2 ++ [.lst (zipD u v)])
  | _ => none
/-- the keys and the values of two rows side by side -/
theorem lz_kv {K : PySem.W.Frag} {H : Hp} : ∀ {xs : List V} {ds : List D} {ks : List Key} {ys : List V} {es : List D}, Rps K H xs ds → keysD ds = some ks → Rps K H ys es →
    ∃ (kv : List (Key × V)) (kvs : KD), kv.length = min xs.length ys.length ∧ (∀ (j : Nat) (q : Key × V), kv[j]? = some q → xs[j]? = some (kV q.1) ∧ ys[j]? = some q.2) ∧ RKV K H kv kvs ∧ itemsD kvs = zipD ds es
  | _, _, _, _, _, .nil, _, _ => ⟨[], [], by simp, fun j q e => by simp at e, .nil, rfl⟩
  | _, _, _, _, _, .cons r t, _, .nil => ⟨[], [], by simp, fun j q e => by simp at e, .nil, rfl⟩
  | _, d :: ds, _, _, e :: es, .cons r t, hk, .cons r' t' => by
    simp only [keysD] at hk
    obtain ⟨k, e1, hk⟩ := Option.bind_eq_some_iff.mp hk
    obtain ⟨ks, e2, hk⟩ := Option.map_eq_some_iff.mp hk
    obtain rfl := keyOf_ok r e1
    obtain ⟨kv, kvs, l, h, rr, z⟩ := lz_kv t e2 t'
    refine ⟨(k, _) :: kv, (k, e) :: kvs, by simp [l], fun j q ej => ?_, .cons ⟨rfl, r'⟩ rr, ?_⟩
    · cases j with
      | zero => have : (k, _) = q := Option.some.inj ej; subst this; exact ⟨rfl, rfl⟩
      | succ j => exact h j q (by simpa using ej)
    · have ed : dK k = d := by
        cases d <;> simp only [keyOf] at e1 <;> cases e1 <;> rfl
      show .tuple [dK k, e] :: itemsD kvs = .tuple [d, e] :: zipD ds es
      rw [z, ed]
theorem pv_lzip (hc : X.calm = true) (hg : Gl X "list") (hm : X.mg "list" = none) (hg2 : Gl X "zip") (hm2 : X.mg "zip" = none) (ha : PVA X [a, b] tA fA)
    (na : starEach [.Call (.Name "zip" p) [a, b] [] pos] X.env = (false, eval (.Call (.Name "zip" p) [a, b] [] pos) X.env) :: starEach [] X.env := by rfl) (nb : starEach [a, b] X.env = (false, eval a X.env) :: starEach [b] X.env := by rfl) (hpl : (backTo pos (starEach [b] X.env)).any (·.1) = false := by rfl) :
    PV X (.Call (.Name "list" p2) [.Call (.Name "zip" p) [a, b] [] pos] [] tpos) (tLzip X.K tA) (lzipF fA) := by
  refine ⟨pe_lzip hc hg hm hg2 hm2 ha.pa na nb hpl, ?_⟩
  intro σ H A env S v S' hE hS hf Q hq
  obtain ⟨⟨x, S1⟩, e1, hf⟩ := Option.bind_eq_some_iff.mp hf
  simp only at hf
  split at hf
  · next ta tb =>
    obtain ⟨u, e2, hf⟩ := Option.bind_eq_some_iff.mp hf
    obtain ⟨ks, e3, hf⟩ := Option.bind_eq_some_iff.mp hf
    obtain ⟨w, e4, hf⟩ := Option.map_eq_some_iff.mp hf
    cases hf
    refine ha.ok σ H A env S _ S1 hE hS e1 _ fun us H1 A1 p1 k1 s1 r1 => ?_
    obtain ⟨y, z, rfl, ry, rz⟩ := r1.two
    obtain ⟨a1, xs, rfl, hx, rx⟩ := lstOf_ok s1 ry e2
    obtain ⟨b1, ys, rfl, hy, ryy⟩ := lstOf_ok s1 rz e4
    obtain ⟨kv, kvs, hl, hkv, rk, hzip⟩ := lz_kv rx e3 ryy
    refine ⟨a1, b1, kv, xs, ys, rfl, hx, hy, hl, hkv, fun H' as l ho hp hn hla hl' => ?_⟩
    have kk := keep_of ho
    have sH := s1.same ho
    have nl : l ∉ A1 := s1.not_mem hn
    refine hq _ H' (A1 ++ [l]) (p1.trans (Pre.app A1 [l])) (k1.trans kk) (sH.add nl ⟨_, hl', ?_⟩) (.loc (by rw [← s1.len]; simp))
    rw [← hzip]
    exact pairs_data hp kk rk
  · cases hf
end
end Pv
set_option maxHeartbeats 4000000
/-! Pv15: how the plain functions are run: each step as a row to rewrite by, what follows kept closed behind a name. -/
namespace Pv
open PySem PySem.Spec PyProof.Rows L2
section
variable {fa fb fc fe fi fd fx fv fo f : EF} {t u : TF} {fA : AF} {env : Env} {S : Sto} {v w : T} {n i j m : Nat} {d : D} {s1 s2 : SF} {b : Bool} {g g' : Op2} {vs : List T} {k l : Int}
/-! expressions -/
@[simp] theorem e_con : conF d env S = some (.p d, S) := Eq.trans rfl rfl
def varK (S : Sto) : Option (Option T) → Option (T × Sto)
  | some (some t) => some (dn t, S)
  | _ => none
@[simp] theorem e_var : varF i env S = varK S env[i]? := by unfold varF varK; rfl
@[simp] theorem e_varK {t : T} : varK S (some (some t)) = some (dn t, S) := Eq.trans rfl rfl
def rawK (S : Sto) : Option (Option T) → Option (T × Sto)
  | some (some t) => some (t, S)
  | _ => none
@[simp] theorem e_raw : rawF i env S = rawK S env[i]? := by unfold rawF rawK; rfl
@[simp] theorem e_rawK {t : T} : rawK S (some (some t)) = some (t, S) := Eq.trans rfl rfl
def bin2 (g : Op2) (v : T) (y : T × Sto) : Option (T × Sto) := g v y.1 y.2
def bin1 (g : Op2) (fb : EF) (env : Env) (x : T × Sto) : Option (T × Sto) := (fb env x.2).bind (bin2 g x.1)
@[simp] theorem e_bin : binF g fa fb env S = (fa env S).bind (bin1 g fb env) := Eq.trans rfl rfl
@[simp] theorem e_bin1 : bin1 g fb env (v, S) = (fb env S).bind (bin2 g v) := Eq.trans rfl rfl
@[simp] theorem e_bin2 : bin2 g v (w, S) = g v w S := Eq.trans rfl rfl
def un1 (g : Op1) (x : T × Sto) : Option (T × Sto) := g x.1 x.2
@[simp] theorem e_un {g : Op1} : unF g fa env S = (fa env S).bind (un1 g) := Eq.trans rfl rfl
@[simp] theorem e_un1 {g : Op1} : un1 g (v, S) = g v S := Eq.trans rfl rfl
@[simp] theorem e_neg : negF (.p (.int k)) S = some (.p (.int (-k)), S) := Eq.trans rfl rfl
@[simp] theorem e_sub : subI (.p (.int k)) (.p (.int l)) S = some (.p (.int (k - l)), S) := Eq.trans rfl rfl
@[simp] theorem e_lt : ltI (.p (.int k)) (.p (.int l)) S = some (.p (.bool (decide (k < l))), S) := Eq.trans rfl rfl
@[simp] theorem e_le : leI (.p (.int k)) (.p (.int l)) S = some (.p (.bool (decide (k ≤ l))), S) := Eq.trans rfl rfl
@[simp] theorem e_gt : gtI (.p (.int k)) (.p (.int l)) S = some (.p (.bool (decide (l < k))), S) := Eq.trans rfl rfl
@[simp] theorem e_ge : geI (.p (.int k)) (.p (.int l)) S = some (.p (.bool (decide (l ≤ k))), S) := Eq.trans rfl rfl
@[simp] theorem e_ip : (iop fun i j => some (.int (i + j))) (.p (.int k)) (.p (.int l)) S = some (.p (.int (k + l)), S) := Eq.trans rfl rfl
@[simp] theorem e_mod (h : 0 < l) : modI (.p (.int k)) (.p (.int l)) S = some (.p (.int (k % l)), S) := by show ((if 0 < l then _ else _ : Option D)).map _ = _; rw [if_pos h]; rfl
@[simp] theorem e_div (h : CDiv k l) : divI (.p (.int k)) (.p (.int l)) S = some (.p (.int (k / l)), S) := by show ((if CDiv k l then _ else _ : Option D)).map _ = _; rw [if_pos h]; rfl
@[simp] theorem e_mulI (h : CMul k l) : mulI (.p (.int k)) (.p (.int l)) S = some (.p (.int (k * l)), S) := by show ((if CMul k l then _ else _ : Option D)).map _ = _; rw [if_pos h]; rfl
@[simp] theorem e_pow (h : CPowA k l) : powA (.p (.int k)) (.p (.int l)) S = some (.p (.int (k ^ l.toNat)), S) := by show ((if CPowA k l then _ else _ : Option D)).map _ = _; rw [if_pos h]; rfl
@[simp] theorem e_add : addT (.p (.int k)) (.p (.int l)) S = some (.p (.int (k + l)), S) := Eq.trans rfl rfl
@[simp] theorem e_addP {xs ys : List D} (h1 : xs.length + ys.length ≤ sizeLine) (h2 : xs ≠ [] ∨ ys ≠ []) : addT (.p (.tuple xs)) (.p (.tuple ys)) S = some (.p (.tuple (xs ++ ys)), S) := by show (if _ then _ else _) = _; rw [if_pos ⟨h1, h2⟩]
@[simp] theorem e_addL {xs ys : List D} (h : S[i]? = some (.lst xs)) (h' : S[j]? = some (.lst ys)) (h1 : xs.length + ys.length ≤ sizeLine) : addT (.loc i) (.loc j) S = some (.loc S.length, S ++ [.lst (xs ++ ys)]) := by simp only [addT, h, h', if_pos h1]
@[simp] theorem e_mulP {xs : List D} (h : -(2 ^ 63) ≤ k ∧ k ≤ 1000 ∧ xs.length ≤ 1000) : mulT (.p (.tuple xs)) (.p (.int k)) S = some (.p (.tuple (repD k xs)), S) := by show (if _ then _ else _) = _; rw [if_pos h]
@[simp] theorem e_eq {b : Bool} {x y : T} {d e : D} (h1 : datOf S x = some d) (h2 : datOf S y = some e) (h3 : deep d = true) (h4 : deep e = true) : eqT b x y S = some (.p (.bool (if b then !PyData.eqv d e else PyData.eqv d e)), S) := by simp only [eqT, h1, h2, h3, h4, and_self, if_true]
@[simp] theorem e_isN {x : T} : isN b x (.p .none) S = some (.p (.bool (if b then !isNone x else isNone x)), S) := Eq.trans rfl rfl
@[simp] theorem e_isB {x y : Bool} : isB b (.p (.bool x)) (.p (.bool y)) S = some (.p (.bool (if b then !decide (x = y) else decide (x = y))), S) := Eq.trans rfl rfl
def chK3 (g' : Op2) (y : T) (w : T × Sto) : Option (T × Sto) := g' y w.1 w.2
def chK2 (g' : Op2) (fc : EF) (env : Env) (y : T) (z : T × Sto) : Option (T × Sto) := match z.1 with
  | .p (.bool true) => (fc env z.2).bind (chK3 g' y)
  | .p (.bool false) => some (.p (.bool false), z.2)
  | _ => none
def chK1 (g g' : Op2) (fc : EF) (env : Env) (x : T) (y : T × Sto) : Option (T × Sto) := (g x y.1 y.2).bind (chK2 g' fc env y.1)
def chK0 (g g' : Op2) (fb fc : EF) (env : Env) (x : T × Sto) : Option (T × Sto) := (fb env x.2).bind (chK1 g g' fc env x.1)
@[simp] theorem e_chain : chainF g g' fa fb fc env S = (fa env S).bind (chK0 g g' fb fc env) := Eq.trans rfl rfl
@[simp] theorem e_ch0 : chK0 g g' fb fc env (v, S) = (fb env S).bind (chK1 g g' fc env v) := Eq.trans rfl rfl
@[simp] theorem e_ch1 : chK1 g g' fc env v (w, S) = (g v w S).bind (chK2 g' fc env w) := Eq.trans rfl rfl
@[simp] theorem e_ch2 (h : b = true) : chK2 g' fc env w (.p (.bool b), S) = (fc env S).bind (chK3 g' w) := by subst h; rfl
@[simp] theorem e_ch2f (h : b = false) : chK2 g' fc env w (.p (.bool b), S) = some (.p (.bool false), S) := by subst h; rfl
@[simp] theorem e_ch3 : chK3 g' v (w, S) = g' v w S := Eq.trans rfl rfl
def andK (fb : EF) (env : Env) (x : T × Sto) : Option (T × Sto) := match x.1 with
  | .p (.bool true) => fb env x.2
  | .p (.bool false) => some (.p (.bool false), x.2)
  | _ => none
@[simp] theorem e_and : andF fa fb env S = (fa env S).bind (andK fb env) := Eq.trans rfl rfl
@[simp] theorem e_and1 (h : b = true) : andK fb env (.p (.bool b), S) = fb env S := by subst h; rfl
@[simp] theorem e_and0 (h : b = false) : andK fb env (.p (.bool b), S) = some (.p (.bool false), S) := by subst h; rfl
def orK (fb : EF) (env : Env) (x : T × Sto) : Option (T × Sto) := match x.1 with
  | .p (.bool true) => some (.p (.bool true), x.2)
  | .p (.bool false) => fb env x.2
  | _ => none
@[simp] theorem e_or : orF fa fb env S = (fa env S).bind (orK fb env) := Eq.trans rfl rfl
@[simp] theorem e_or1 (h : b = true) : orK fb env (.p (.bool b), S) = some (.p (.bool true), S) := by subst h; rfl
@[simp] theorem e_or0 (h : b = false) : orK fb env (.p (.bool b), S) = fb env S := by subst h; rfl
def notK (x : T × Sto) : Option (T × Sto) := match x.1 with
  | .p (.bool c) => some (.p (.bool (!c)), x.2)
  | _ => none
@[simp] theorem e_not : notF fa env S = (fa env S).bind notK := Eq.trans rfl rfl
@[simp] theorem e_notK : notK (.p (.bool b), S) = some (.p (.bool (!b)), S) := Eq.trans rfl rfl
def ifEK (fa fb : EF) (env : Env) (x : Bool × Sto) : Option (T × Sto) := if x.1 = true then fa env x.2 else fb env x.2
@[simp] theorem e_if : ifF t fa fb env S = (t env S).bind (ifEK fa fb env) := Eq.trans rfl rfl
@[simp] theorem e_if1 (h : b = true) : ifEK fa fb env (b, S) = fa env S := by subst h; rfl
@[simp] theorem e_if0 (h : b = false) : ifEK fa fb env (b, S) = fb env S := by subst h; rfl
/-! tests -/
def asK (x : T × Sto) : Option (Bool × Sto) := match x.1 with
  | .p (.bool c) => some (c, x.2)
  | _ => none
@[simp] theorem e_as : asT fa env S = (fa env S).bind asK := Eq.trans rfl rfl
@[simp] theorem e_asK : asK (.p (.bool b), S) = some (b, S) := Eq.trans rfl rfl
def andTK (u : TF) (env : Env) (x : Bool × Sto) : Option (Bool × Sto) := if x.1 = true then u env x.2 else some (false, x.2)
@[simp] theorem e_andT : andT t u env S = (t env S).bind (andTK u env) := Eq.trans rfl rfl
@[simp] theorem e_andT1 (h : b = true) : andTK u env (b, S) = u env S := by subst h; rfl
@[simp] theorem e_andT0 (h : b = false) : andTK u env (b, S) = some (false, S) := by subst h; rfl
def orTK (u : TF) (env : Env) (x : Bool × Sto) : Option (Bool × Sto) := if x.1 = true then some (true, x.2) else u env x.2
@[simp] theorem e_orT : orT t u env S = (t env S).bind (orTK u env) := by
  unfold orT orTK; rfl
@[simp] theorem e_orT1 (h : b = true) : orTK u env (b, S) = some (true, S) := by subst h; rfl
@[simp] theorem e_orT0 (h : b = false) : orTK u env (b, S) = u env S := by subst h; rfl
def notTK (x : Bool × Sto) : Bool × Sto := (!x.1, x.2)
@[simp] theorem e_notT : notT t env S = (t env S).map notTK := Eq.trans rfl rfl
@[simp] theorem e_notTK : notTK (b, S) = (!b, S) := Eq.trans rfl rfl
/-! rows of arguments, displays, calls -/
@[simp] theorem e_nil : nilF env S = some ([], S) := Eq.trans rfl rfl
def consK2 (v : T) (y : List T × Sto) : List T × Sto := (v :: y.1, y.2)
def consK1 (fA : AF) (env : Env) (x : T × Sto) : Option (List T × Sto) := (fA env x.2).map (consK2 x.1)
@[simp] theorem e_cons : consF fa fA env S = (fa env S).bind (consK1 fA env) := Eq.trans rfl rfl
@[simp] theorem e_cons1 : consK1 fA env (v, S) = (fA env S).map (consK2 v) := Eq.trans rfl rfl
@[simp] theorem e_cons2 : consK2 v (vs, S) = (v :: vs, S) := Eq.trans rfl rfl
def tupK (x : List T × Sto) : Option (T × Sto) := if x.1.length ≤ sizeLine then some (tupT x.1, x.2) else none
@[simp] theorem e_tup : tupF fA env S = (fA env S).bind tupK := Eq.trans rfl rfl
@[simp] theorem e_tupK (h : vs.length ≤ 1000) : tupK (vs, S) = some (tupT vs, S) := by unfold tupK; rw [if_pos (Nat.le_trans h (by rw [sizeLine_eq]; decide))]
def lstK (x : List T × Sto) : Option (T × Sto) := match allP x.1 with
  | some ds => if ds.length ≤ sizeLine then some (.loc x.2.length, x.2 ++ [.lst ds]) else none
  | none => none
@[simp] theorem e_lst : lstF fA env S = (fA env S).bind lstK := Eq.trans rfl rfl
@[simp] theorem e_lstK {ds : List D} (h : allP vs = some ds) (h2 : ds.length ≤ 1000) : lstK (vs, S) = some (.loc S.length, S ++ [.lst ds]) := by
  unfold lstK; simp only [h]; rw [if_pos (Nat.le_trans h2 (by rw [sizeLine_eq]; decide))]
def callK (n : Nat) (g : DF) (x : List T × Sto) : Option (T × Sto) := if x.1.length = n then g x.1 x.2 else none
@[simp] theorem e_call {g : DF} : callF n g fA env S = (fA env S).bind (callK n g) := Eq.trans rfl rfl
@[simp] theorem e_callK {g : DF} (h : vs.length = n) : callK n g (vs, S) = g vs S := by unfold callK; rw [if_pos h]
def argK (g : DF) (x : List T × Sto) : Option (T × Sto) := g x.1 x.2
@[simp] theorem e_arg {g : DF} : argF g fA env S = (fA env S).bind (argK g) := Eq.trans rfl rfl
@[simp] theorem e_argK {g : DF} : argK g (vs, S) = g vs S := Eq.trans rfl rfl
def isiK (c : String) (x : T × Sto) : Option (T × Sto) := (tyName x.2 x.1).bind fun n => (kitB n c).map fun b => (.p (.bool b), x.2)
@[simp] theorem e_isi {c : String} : isiF c fa env S = (fa env S).bind (isiK c) := Eq.trans rfl rfl
theorem kit_int_int : kitB "int" "int" = some true := by decide +kernel
theorem kit_int_bool : kitB "int" "bool" = some false := by decide +kernel
theorem kit_tup_tup : kitB "tuple" "tuple" = some true := by decide +kernel
@[simp] theorem e_isi_ii : isiK "int" (.p (.int k), S) = some (.p (.bool true), S) := by simp only [isiK, tyName, Option.bind_some, kit_int_int, Option.map_some]
@[simp] theorem e_isi_ib : isiK "bool" (.p (.int k), S) = some (.p (.bool false), S) := by simp only [isiK, tyName, Option.bind_some, kit_int_bool, Option.map_some]
@[simp] theorem e_isi_tt {ds : List D} : isiK "tuple" (.p (.tuple ds), S) = some (.p (.bool true), S) := by simp only [isiK, tyName, Option.bind_some, kit_tup_tup, Option.map_some]
@[simp] theorem e_int : intT [.p (.int k)] S = some (.p (.int k), S) := Eq.trans rfl rfl
@[simp] theorem e_intB : intT [.p (.bool b)] S = some (.p (.int (if b then 1 else 0)), S) := Eq.trans rfl rfl
@[simp] theorem e_abs : absT [.p (.int k)] S = some (.p (.int (if k < 0 then -k else k)), S) := Eq.trans rfl rfl
@[simp] theorem e_max2 : max2T [.p (.int k), .p (.int l)] S = some (.p (.int (if l > k then l else k)), S) := Eq.trans rfl rfl
@[simp] theorem e_min2 : min2T [.p (.int k), .p (.int l)] S = some (.p (.int (if l < k then l else k)), S) := Eq.trans rfl rfl
@[simp] theorem e_lenP {ds : List D} : lenT [.p (.tuple ds)] S = some (.p (.int (ds.length : Nat)), S) := Eq.trans rfl rfl
@[simp] theorem e_lenR {ds : List D} : lenT [.ro ds] S = some (.p (.int (ds.length : Nat)), S) := Eq.trans rfl rfl
@[simp] theorem e_lenL {ds : List D} (h : S[i]? = some (.lst ds)) : lenT [.loc i] S = some (.p (.int (ds.length : Nat)), S) := by simp only [lenT, h]
@[simp] theorem e_lenD {ds : KD} (h : S[i]? = some (.dic ds)) : lenT [.loc i] S = some (.p (.int (ds.length : Nat)), S) := by simp only [lenT, h]
@[simp] theorem e_sumL {ns : List Int} (h : S[i]? = some (.lst (ns.map PyData.int))) : sumT [.loc i] S = some (.p (.int ns.sum), S) := by simp only [sumT, lstOf, h, Option.bind_some, intsOf_map, Option.map_some]
@[simp] theorem e_allL {b : Bool} {bs : List Bool} (h : S[i]? = some (.lst (bs.map PyData.bool))) : allT b [.loc i] S = some (.p (.bool (if b then bs.any id else bs.all id)), S) := by simp only [allT, lstOf, h, Option.bind_some, boolsOf_map, Option.map_some]
@[simp] theorem e_tuple {ds : List D} (h : S[i]? = some (.lst ds)) : tupleT [.loc i] S = some (.p (.tuple ds), S) := by simp only [tupleT, seqOf, h, Option.map_some]
@[simp] theorem e_tupleF {ds : List D} (h : S[i]? = some (.lst ds)) : tupleFT [.loc i] S = some (.ft ds, S) := by simp only [tupleFT, lstOf, h, Option.map_some]
@[simp] theorem e_listL {ds : List D} (h : S[i]? = some (.lst ds)) : listT [.loc i] S = some (.loc S.length, S ++ [.lst ds]) := by simp only [listT, seqOf, h, Option.map_some]
@[simp] theorem e_listP {ds : List D} : listT [.p (.tuple ds)] S = some (.loc S.length, S ++ [.lst ds]) := Eq.trans rfl rfl
@[simp] theorem e_dict {ds : List D} {kvs : KD} (h : S[i]? = some (.lst ds)) (h2 : pairsOf ds = some kvs) : dictT [.loc i] S = some (.loc S.length, S ++ [.dic (mergeD [] kvs)]) := by simp only [dictT, lstOf, h, Option.bind_some, h2, Option.map_some]
@[simp] theorem e_dictF {ds : List D} {kvs : KD} (h2 : pairsOf ds = some kvs) : dictFT [.ft ds] S = some (.loc S.length, S ++ [.dic (mergeD [] kvs)]) := by simp only [dictFT, h2, Option.map_some]
@[simp] theorem e_sorted {ds es : List D} (h : S[i]? = some (.lst ds)) (h2 : sortD ds = some es) : sortedT [.loc i] S = some (.loc S.length, S ++ [.lst es]) := by simp only [sortedT, seqOf, h, Option.bind_some, h2, Option.map_some]
@[simp] theorem e_ixL {ds : List D} (h : S[i]? = some (.lst ds)) : ixT (.loc i) (.p (.int k)) S = (atI ds k).map fun d => (.p d, S) := by simp only [ixT, seqOf, h, Option.bind_some]
@[simp] theorem e_ixP {ds : List D} : ixT (.p (.tuple ds)) (.p (.int k)) S = (atI ds k).map fun d => (.p d, S) := Eq.trans rfl rfl
@[simp] theorem e_ixR {ds : List D} : ixT (.ro ds) (.p (.int k)) S = (atI ds k).map fun d => (.p d, S) := Eq.trans rfl rfl
@[simp] theorem e_ixM {ts : List T} : ixT (.mix ts) (.p (.int k)) S = (atI ts k).map fun t => (t, S) := Eq.trans rfl rfl
/-! statements -/
@[simp] theorem s_next : nextS n env S = some (.nx, env, S) := Eq.trans rfl rfl
def seqK (g : SF) (n : Nat) (x : Out × Env × Sto) : Option (Out × Env × Sto) := match x.1 with
  | .nx => g n x.2.1 x.2.2
  | o => some (o, x.2.1, x.2.2)
@[simp] theorem s_seq : seqS s1 s2 n env S = (s1 n env S).bind (seqK s2 n) := Eq.trans rfl rfl
@[simp] theorem s_seqN : seqK s2 n (.nx, env, S) = s2 n env S := Eq.trans rfl rfl
@[simp] theorem s_seqR : seqK s2 n (.rt v, env, S) = some (.rt v, env, S) := Eq.trans rfl rfl
@[simp] theorem s_seqB : seqK s2 n (.bk, env, S) = some (.bk, env, S) := Eq.trans rfl rfl
def retK (env : Env) (x : T × Sto) : Out × Env × Sto := (.rt x.1, env, x.2)
@[simp] theorem s_ret : retS fa n env S = (fa env S).map (retK env) := Eq.trans rfl rfl
@[simp] theorem s_retK : retK env (v, S) = (.rt v, env, S) := Eq.trans rfl rfl
def exprK (env : Env) (n : Nat) (x : T × Sto) : Out × Env × Sto := (.nx, env, x.2.take n)
@[simp] theorem s_expr : exprS fa n env S = (fa env S).map (exprK env S.length) := Eq.trans rfl rfl
@[simp] theorem s_exprK : exprK env m (v, S) = (.nx, env, S.take m) := Eq.trans rfl rfl
def ifK (s1 s2 : SF) (n : Nat) (env : Env) (m : Nat) (x : Bool × Sto) : Option (Out × Env × Sto) := if x.1 = true then s1 n env (x.2.take m) else s2 n env (x.2.take m)
@[simp] theorem s_if : ifS t s1 s2 n env S = (t env S).bind (ifK s1 s2 n env S.length) := Eq.trans rfl rfl
@[simp] theorem s_if1 (h : b = true) : ifK s1 s2 n env m (b, S) = s1 n env (S.take m) := by subst h; rfl
@[simp] theorem s_if0 (h : b = false) : ifK s1 s2 n env m (b, S) = s2 n env (S.take m) := by subst h; rfl
def setK2 (n0 i m : Nat) (env : Env) (y : T × Sto) : Out × Env × Sto := putSlot n0 i m y.1 env y.2
def setK1 (n0 i m : Nat) (env : Env) (x : T × Sto) : Option (Out × Env × Sto) := (gcV m x.1 x.2).map (setK2 n0 i m env)
@[simp] theorem s_set : setS i fa n env S = (fa env S).bind (setK1 n i S.length env) := Eq.trans rfl rfl
@[simp] theorem s_set1 : setK1 n i m env (v, S) = (gcV m v S).map (setK2 n i m env) := Eq.trans rfl rfl
@[simp] theorem s_set2 {d : D} : setK2 n i m env (.p d, S) = (.nx, env.set i (some (.p d)), S) := Eq.trans rfl rfl
@[simp] theorem s_set2f {ds : List D} : setK2 n i m env (.ft ds, S) = (.nx, env.set i (some (.ft ds)), S) := Eq.trans rfl rfl
@[simp] theorem s_set2m {ts : List T} : setK2 n i m env (.mix ts, S) = (.nx, env.set i (some (.mix ts)), S) := Eq.trans rfl rfl
@[simp] theorem s_set2l {j : Nat} : setK2 n i m env (.loc j, S) = putLoc n i m j env S := Eq.trans rfl rfl
def asgK2 (g : GF) (env : Env) (y : T × Sto) : Option (Out × Env × Sto) := (g y.1 env y.2).map fun z => (.nx, z.1, z.2)
def asgK1 (g : GF) (m : Nat) (env : Env) (x : T × Sto) : Option (Out × Env × Sto) := (gcV m x.1 x.2).bind (asgK2 g env)
@[simp] theorem s_asg {g : GF} : asgS fa g n env S = (fa env S).bind (asgK1 g S.length env) := Eq.trans rfl rfl
@[simp] theorem s_asg1 {g : GF} : asgK1 g m env (v, S) = (gcV m v S).bind (asgK2 g env) := Eq.trans rfl rfl
@[simp] theorem s_asg2 {g : GF} : asgK2 g env (v, S) = (g v env S).map fun z => (.nx, z.1, z.2) := Eq.trans rfl rfl
@[simp] theorem gc_p {d : D} : gcV m (.p d) S = some (.p d, S.take m) := Eq.trans rfl rfl
@[simp] theorem gc_ft {ds : List D} (h : m ≤ S.length) : gcV m (.ft ds) S = some (.ft ds, S.take m) := by simp [gcV, gcT, gcOb]
@[simp] theorem gc_new {o : O} (h : S.length = m) : gcV m (.loc m) (S ++ [o]) = some (.loc m, S ++ [o]) := by subst h; simp [gcV, gcT, gcOb]
@[simp] theorem gc_old (h : j < m) : gcV m (.loc j) S = some (.loc j, S.take m) := by simp [gcV, gcT, gcOb, h]
/-- a def run -/
theorem m_run {n : Nat} {b : SF} {ts : List T} : defF n b ts S = (b S.length (ts.map some ++ List.replicate (n - ts.length) none) S).bind (fun z => match z.1 with
  | .rt r => gcV S.length r z.2.2
  | .nx => some (.p .none, z.2.2.take S.length)
  | _ => none) := rfl
theorem m_ret {n : Nat} {b : SF} {ts : List T} {r : T} {env' : Env} {S' : Sto} {x : T × Sto} (h : b S.length (ts.map some ++ List.replicate (n - ts.length) none) S = some (.rt r, env', S')) (hg : gcV S.length r S' = some x) : defF n b ts S = some x := by
  rw [m_run, h]; exact hg
theorem m_end {n : Nat} {b : SF} {ts : List T} {env' : Env} {S' : Sto} (h : b S.length (ts.map some ++ List.replicate (n - ts.length) none) S = some (.nx, env', S')) : defF n b ts S = some (.p .none, S'.take S.length) := by
  rw [m_run, h]; rfl
end
end Pv
set_option maxHeartbeats 4000000
/-! Pv16: loops, comprehensions, stores into lists and dicts, run. -/
namespace Pv
open PySem PySem.Spec PyProof.Rows L2
section
variable {fa fb fc fe fi fd fx fv fo fk f : EF} {t u ft : TF} {fA : AF} {env env' : Env} {S S' : Sto} {v w : T} {n i j m M : Nat} {d : D} {s1 s2 sb : SF} {b : Bool} {g g' : Op2} {vs : List T} {k l : Int} {gf : GF} {gfs : GFs} {itf : IF}
/-! o[i] = v -/
def setLK3 (env : Env) (M : Nat) (v o : T) (i : T × Sto) : Option (Out × Env × Sto) := match v, o, i.1 with
  | .p d, .loc n, .p (.int k) => match i.2[n]? with
    | some (.lst xs) => (ixN xs.length k).map fun j => (.nx, env, (i.2.set n (.lst (xs.set j d))).take M)
    | _ => none
  | _, _, _ => none
def setLK2 (fi : EF) (env : Env) (M : Nat) (v : T) (o : T × Sto) : Option (Out × Env × Sto) := (fi env o.2).bind (setLK3 env M v o.1)
def setLK1 (fo fi : EF) (env : Env) (M : Nat) (v : T × Sto) : Option (Out × Env × Sto) := (fo env v.2).bind (setLK2 fi env M v.1)
@[simp] theorem s_setL : setLS fo fi fv n env S = (fv env S).bind (setLK1 fo fi env S.length) := Eq.trans rfl rfl
@[simp] theorem s_setL1 : setLK1 fo fi env M (v, S) = (fo env S).bind (setLK2 fi env M v) := Eq.trans rfl rfl
@[simp] theorem s_setL2 : setLK2 fi env M v (w, S) = (fi env S).bind (setLK3 env M v w) := Eq.trans rfl rfl
@[simp] theorem s_setL3 {xs : List D} (h : S[i]? = some (.lst xs)) (h2 : ixN xs.length k = some j) : setLK3 env M (.p d) (.loc i) (.p (.int k), S) = some (.nx, env, (S.set i (.lst (xs.set j d))).take M) := by
  simp only [setLK3, h, h2, Option.map_some]
/-! methods -/
def methK1 (g : MF) (x : T) (y : List T × Sto) : Option (T × Sto) := g x y.1 y.2
def methK0 (g : MF) (fA : AF) (env : Env) (x : T × Sto) : Option (T × Sto) := if isLst x.2 x.1 = true then (fA env x.2).bind (methK1 g x.1) else none
@[simp] theorem e_meth {g : MF} : methF g fe fA env S = (fe env S).bind (methK0 g fA env) := Eq.trans rfl rfl
@[simp] theorem e_meth0 {g : MF} {xs : List D} (h : S[i]? = some (.lst xs)) : methK0 g fA env (.loc i, S) = (fA env S).bind (methK1 g (.loc i)) := by simp only [methK0, isLst, h, if_true]
@[simp] theorem e_meth1 {g : MF} : methK1 g v (vs, S) = g v vs S := Eq.trans rfl rfl
@[simp] theorem e_append {xs : List D} (h : S[i]? = some (.lst xs)) (h2 : xs.length < sizeLine) : appendT (.loc i) [.p d] S = some (.p .none, S.set i (.lst (xs ++ [d]))) := by simp only [appendT, h, if_pos h2]
@[simp] theorem e_popAt {xs : List D} (h : S[i]? = some (.lst xs)) (h2 : 0 ≤ k ∧ k < (xs.length : Int) ∧ k < 2 ^ 63) : popAtT (.loc i) [.p (.int k)] S = (xs[k.toNat]?).map fun d => (.p d, S.set i (.lst (xs.eraseIdx k.toNat))) := by simp only [popAtT, h, if_pos h2]
/-! iterables -/
def tupIK (x : T × Sto) : Option (List D × Gd × Sto) := match x.1 with
  | .p (.tuple ds) => some (ds, [], x.2)
  | _ => none
@[simp] theorem i_tup : tupI fe env S = (fe env S).bind tupIK := Eq.trans rfl rfl
@[simp] theorem i_tupK {ds : List D} : tupIK (.p (.tuple ds), S) = some (ds, [], S) := Eq.trans rfl rfl
def lstIK (x : T × Sto) : Option (List D × Gd × Sto) := match x.1 with
  | .ro xs => some (xs, [], x.2)
  | .loc n => match x.2[n]? with
    | some (.lst xs) => some (xs, [(n, .lst xs)], x.2)
    | _ => none
  | _ => none
@[simp] theorem i_lst : lstI fe env S = (fe env S).bind lstIK := Eq.trans rfl rfl
@[simp] theorem i_lstK {xs : List D} (h : S[i]? = some (.lst xs)) : lstIK (.loc i, S) = some (xs, [(i, .lst xs)], S) := by simp only [lstIK, h]
def rng1K (x : List T × Sto) : Option (List D × Gd × Sto) := match x.1 with
  | [.p (.int j)] => if small62 j = true then some (rangeL 0 j.toNat, [], x.2) else none
  | _ => none
@[simp] theorem i_rng1 : range1I fA env S = (fA env S).bind rng1K := Eq.trans rfl rfl
theorem i_rng1K (h : small62 k = true) : rng1K ([.p (.int k)], S) = some (rangeL 0 k.toNat, [], S) := by simp only [rng1K, h, if_true]
theorem small62_nat {c : Nat} (h : c ≤ 1000000) : small62 (c : Int) = true := by
  unfold small62
  rw [decide_eq_true (by omega), decide_eq_true (by omega)]; rfl
theorem i_rng1n {c : Nat} (h : c ≤ 1000000) : rng1K ([.p (.int (c : Int))], S) = some (rangeL 0 c, [], S) := by
  rw [i_rng1K (small62_nat h), Int.toNat_natCast]
theorem i_range1 {c : Nat} (h : fA env S = some ([.p (.int (c : Int))], S')) (hc : c ≤ 1000000) : range1I fA env S = some (rangeL 0 c, [], S') := by
  rw [i_rng1, h, Option.bind_some]
  exact i_rng1n hc
def keysK (x : T × Sto) : Option (List D × Gd × Sto) := (lckOf x.2 x.1).map fun q => (q.2.map fun z => dK z.1, [(q.1, .lck q.2)], x.2)
@[simp] theorem i_keys : keysI fe env S = (fe env S).bind keysK := Eq.trans rfl rfl
@[simp] theorem i_keysK {kvs : KD} (h : S[i]? = some (.lck kvs)) : keysK (.loc i, S) = some (kvs.map fun z => dK z.1, [(i, .lck kvs)], S) := by simp only [keysK, lckOf, h, Option.map_some]
def zipK (x : List T × Sto) : Option (List D × Gd × Sto) := match x.1 with
  | [a, b] => if isTupT a = isTupT b then (seqG x.2 a).bind fun u => (seqG x.2 b).map fun v => (zipD u.1 v.1, u.2 ++ v.2, x.2) else none
  | _ => none
@[simp] theorem i_zip : zipI fA env S = (fA env S).bind zipK := Eq.trans rfl rfl
@[simp] theorem i_zipP {xs ys : List D} : zipK ([.p (.tuple xs), .p (.tuple ys)], S) = some (zipD xs ys, [], S) := Eq.trans rfl rfl
@[simp] theorem i_zipL {xs ys : List D} (h : S[i]? = some (.lst xs)) (h2 : S[j]? = some (.lst ys)) : zipK ([.loc i, .loc j], S) = some (zipD xs ys, [(i, .lst xs), (j, .lst ys)], S) := by simp [zipK, isTupT, seqG, h, h2]
/-! targets -/
@[simp] theorem g_name : nameG i v env S = some (env.set i (some v), S) := Eq.trans rfl rfl
@[simp] theorem g_nil : nilG [] env S = some (env, S) := Eq.trans rfl rfl
def consGK (h : GFs) (xs : List T) (y : Env × Sto) : Option (Env × Sto) := h xs y.1 y.2
@[simp] theorem g_cons : consG gf gfs (v :: vs) env S = (gf v env S).bind (consGK gfs vs) := Eq.trans rfl rfl
@[simp] theorem g_consK : consGK gfs vs (env, S) = gfs vs env S := Eq.trans rfl rfl
@[simp] theorem g_tupP {ds : List D} (h : ds.length = n) : tupG n gfs (.p (.tuple ds)) env S = gfs (ds.map T.p) env S := by simp only [tupG, if_pos h]
@[simp] theorem g_tupM {ts : List T} (h : ts.length = n) : tupG n gfs (.mix ts) env S = gfs ts env S := by simp only [tupG, if_pos h]
/-! for -/
def forK2 (m : Nat) (z : Out × Env × Sto) : Out × Env × Sto := match z.1 with
  | .rt r => (.rt r, z.2.1, z.2.2)
  | o => (o, forget m z.2.1, z.2.2.take m)
noncomputable def forK1 (g : GF) (sb : SF) (n : Nat) (env : Env) (m : Nat) (it : List D × Gd × Sto) : Option (Out × Env × Sto) := (loopF g sb (gdTop n it.2.1) it.2.2.length it.2.1 it.1 env it.2.2).map (forK2 m)
@[simp] theorem s_for : forS itf gf sb n env S = (itf env S).bind (forK1 gf sb n env S.length) := Eq.trans rfl rfl
theorem s_for1 {xs : List D} {gd : Gd} : forK1 gf sb n env m (xs, gd, S) = (loopF gf sb (gdTop n gd) S.length gd xs env S).map (forK2 m) := Eq.trans rfl rfl
@[simp] theorem s_for2 : forK2 m (.nx, env, S) = (.nx, forget m env, S.take m) := Eq.trans rfl rfl
@[simp] theorem s_for2r : forK2 m (.rt v, env, S) = (.rt v, env, S) := Eq.trans rfl rfl
theorem s_for_run {xs : List D} {gd : Gd} {S1 : Sto} (hi : itf env S = some (xs, gd, S1)) (hm : S1.length = m) (hl : loopF gf sb (gdTop n gd) m gd xs env S1 = some (.nx, env', S')) : forS itf gf sb n env S = some (.nx, forget S.length env', S'.take S.length) := by
  subst hm
  rw [s_for, hi, Option.bind_some, s_for1, hl]; rfl
theorem s_for_runR {xs : List D} {gd : Gd} {S1 : Sto} (hi : itf env S = some (xs, gd, S1)) (hm : S1.length = m) (hl : loopF gf sb (gdTop n gd) m gd xs env S1 = some (.rt v, env', S')) : forS itf gf sb n env S = some (.rt v, env', S') := by
  subst hm
  rw [s_for, hi, Option.bind_some, s_for1, hl]; rfl
/-- a loop by a relation between what is counted and what stands in the slots and the store -/
theorem loop_rel {α : Type} {gd : Gd} (R : α → Env → Sto → Prop) (step : α → D → α) (hgd : ∀ a env S, R a env S → GdOk gd S) : ∀ (xs : List D) (a : α) (env : Env) (S : Sto), R a env S →
    (∀ a x env S, x ∈ xs → R a env S → ∃ env1 S1 env2 S2, gf (.p x) env S = some (env1, S1) ∧ sb n env1 S1 = some (.nx, env2, S2) ∧ R (step a x) (forget m env2) (S2.take m)) →
    ∃ env' S', loopF gf sb n m gd xs env S = some (.nx, env', S') ∧ R (xs.foldl step a) env' S'
  | [], a, env, S, r, _ => ⟨env, S, by simp only [loopF]; rw [if_pos (hgd _ _ _ r)], r⟩
  | x :: xs, a, env, S, r, h => by
    obtain ⟨env1, S1, env2, S2, e1, e2, r2⟩ := h a x env S List.mem_cons_self r
    obtain ⟨env', S', e3, r3⟩ := loop_rel R step hgd xs (step a x) _ _ r2 fun a y env S hy => h a y env S (List.mem_cons_of_mem _ hy)
    exact ⟨env', S', by simp only [loopF]; rw [if_pos (hgd _ _ _ r), e1, Option.bind_some, e2, Option.bind_some]; exact e3, r3⟩
theorem gd_nil {S : Sto} : GdOk [] S := fun p h => by simp at h
/-- .. with an invariant alone -/
theorem loop_inv {gd : Gd} (R : Nat → Env → Sto → Prop) (hgd : ∀ i env S, R i env S → GdOk gd S) : ∀ (xs : List D) (i : Nat) (env : Env) (S : Sto), R i env S →
    (∀ j x env S, xs[j]? = some x → R (i + j) env S → ∃ env1 S1 env2 S2, gf (.p x) env S = some (env1, S1) ∧ sb n env1 S1 = some (.nx, env2, S2) ∧ R (i + j + 1) (forget m env2) (S2.take m)) →
    ∃ env' S', loopF gf sb n m gd xs env S = some (.nx, env', S') ∧ R (i + xs.length) env' S'
  | [], a, env, S, r, _ => ⟨env, S, by simp only [loopF]; rw [if_pos (hgd _ _ _ r)], r⟩
  | x :: xs, i, env, S, r, h => by
    obtain ⟨env1, S1, env2, S2, e1, e2, r2⟩ := h 0 x env S rfl r
    obtain ⟨env', S', e3, r3⟩ := loop_inv R hgd xs (i + 1) _ _ r2 fun j y env S hy hr => by
      have := h (j + 1) y env S (by simpa using hy) (by rwa [show i + (j + 1) = i + 1 + j by omega])
      rwa [show i + (j + 1) + 1 = i + 1 + j + 1 by omega] at this
    exact ⟨env', S', by simp only [loopF]; rw [if_pos (hgd _ _ _ r), e1, Option.bind_some, e2, Option.bind_some]; exact e3, by rw [List.length_cons, show i + (xs.length + 1) = i + 1 + xs.length by omega]; exact r3⟩
/-! comprehensions -/
noncomputable def lcK (g : GF) (ft : TF) (fe : EF) (vs : List Nat) (env : Env) (it : List D × Gd × Sto) : Option (T × Sto) := (lcGo g ft fe (wipeE env vs) it.2.2.length it.2.1 it.1 [] it.2.2).map fun z => (.loc it.2.2.length, z.2 ++ [.lst z.1])
@[simp] theorem e_lc {vs : List Nat} : lcF itf gf ft fe vs env S = (itf env S).bind (lcK gf ft fe vs env) := Eq.trans rfl rfl
theorem e_lc1 {vs : List Nat} {xs : List D} {gd : Gd} {r : List D × Sto} (h : lcGo gf ft fe (wipeE env vs) S.length gd xs [] S = some r) : lcK gf ft fe vs env (xs, gd, S) = some (.loc S.length, r.2 ++ [.lst r.1]) := by
  show (lcGo gf ft fe (wipeE env vs) S.length gd xs [] S).map _ = _
  rw [h]; rfl
/-- a comprehension that changes nothing: what passes p, by f -/
theorem lc_pure {gd : Gd} (p : D → Bool) (f : D → D) (hm : S.length = m) (hgd : GdOk gd S) : ∀ (xs acc : List D), acc.length + xs.length ≤ 100000 →
    (∀ x acc, x ∈ xs → ∃ env1, gf (.p x) env (S ++ [.lst acc]) = some (env1, S ++ [.lst acc]) ∧ ft env1 (S ++ [.lst acc]) = some (p x, S ++ [.lst acc]) ∧ (p x = true → fe env1 (S ++ [.lst acc]) = some (.p (f x), S ++ [.lst acc]))) →
    lcGo gf ft fe env m gd xs acc S = some (acc ++ (xs.filter p).map f, S)
  | [], acc, _, _ => by simp only [lcGo]; rw [if_pos hgd]; simp
  | x :: xs, acc, hl, h => by
    obtain ⟨env1, e1, e2, e3⟩ := h x acc List.mem_cons_self
    have ih := fun acc' hl' => lc_pure (gd := gd) p f hm hgd xs acc' hl' fun y a hy => h y a (List.mem_cons_of_mem _ hy)
    simp only [List.length_cons] at hl
    have hsz : acc.length < sizeLine := by rw [sizeLine_eq]; omega
    simp only [lcGo]
    rw [if_pos hgd, e1, Option.bind_some, e2, Option.bind_some]
    cases hp : p x with
    | true =>
      simp only [if_true]
      rw [e3 hp, Option.bind_some]
      simp only
      rw [unsnoc_app hm, Option.bind_some]
      simp only
      rw [if_pos hsz, ih _ (by rw [List.length_append, List.length_singleton]; omega), List.filter_cons, hp, if_pos rfl, List.map_cons, List.append_assoc]
      rfl
    | false =>
      simp only [Bool.false_eq_true, if_false]
      rw [unsnoc_app hm, Option.bind_some]
      simp only
      rw [ih _ (by omega), List.filter_cons, hp, if_neg Bool.false_ne_true]
/-- a comprehension that changes the store below itself, without ifs -/
theorem lc_rel {gd : Gd} (R : List D → Sto → Prop) (hR : ∀ a S, R a S → S.length = m ∧ GdOk gd S) : ∀ (xs acc : List D) (S : Sto), acc.length + xs.length ≤ 100000 → R acc S →
    (∀ x acc S, x ∈ xs → R acc S → ∃ env1 y S', gf (.p x) env (S ++ [.lst acc]) = some (env1, S ++ [.lst acc]) ∧ ft env1 (S ++ [.lst acc]) = some (true, S ++ [.lst acc]) ∧ fe env1 (S ++ [.lst acc]) = some (.p y, S' ++ [.lst acc]) ∧ R (acc ++ [y]) S') →
    ∃ out S', lcGo gf ft fe env m gd xs acc S = some (out, S') ∧ R out S' ∧ out.length = acc.length + xs.length
  | [], acc, S, _, r, _ => ⟨acc, S, by simp only [lcGo]; rw [if_pos (hR _ _ r).2], r, by simp⟩
  | x :: xs, acc, S, hl, r, h => by
    obtain ⟨env1, y, S1, e1, e2, e3, r1⟩ := h x acc S List.mem_cons_self r
    simp only [List.length_cons] at hl
    have hsz : acc.length < sizeLine := by rw [sizeLine_eq]; omega
    obtain ⟨out, S', e4, r4, l4⟩ := lc_rel R hR xs (acc ++ [y]) S1 (by rw [List.length_append, List.length_singleton]; omega) r1 fun z a S hz => h z a S (List.mem_cons_of_mem _ hz)
    refine ⟨out, S', ?_, r4, by rw [l4, List.length_append, List.length_singleton, List.length_cons]; omega⟩
    simp only [lcGo]
    rw [if_pos (hR _ _ r).2, e1, Option.bind_some, e2, Option.bind_some]
    simp only [if_true]
    rw [e3, Option.bind_some]
    simp only
    rw [unsnoc_app (hR _ _ r1).1, Option.bind_some]
    simp only
    rw [if_pos hsz, e4]
@[simp] theorem e_yes : yesT env S = some (true, S) := Eq.trans rfl rfl
/-- a dict comprehension that changes nothing -/
theorem dc_pure {gd : Gd} (p : D → Bool) (fK : D → Key) (fV : D → D) (hm : S.length = m) (hgd : GdOk gd S) : ∀ (xs : List D) (acc : KD), acc.length + xs.length ≤ 100000 →
    (∀ x acc, x ∈ xs → ∃ env1, gf (.p x) env (S ++ [.dic acc]) = some (env1, S ++ [.dic acc]) ∧ ft env1 (S ++ [.dic acc]) = some (p x, S ++ [.dic acc]) ∧ (p x = true → fk env1 (S ++ [.dic acc]) = some (.p (dK (fK x)), S ++ [.dic acc]) ∧ fv env1 (S ++ [.dic acc]) = some (.p (fV x), S ++ [.dic acc]))) →
    dcGo gf ft fk fv env m gd xs acc S = some (((xs.filter p).map fun x => (fK x, fV x)).foldl (fun a kv => putD a kv.1 kv.2) acc, S)
  | [], acc, _, _ => by simp only [dcGo]; rw [if_pos hgd]; simp
  | x :: xs, acc, hl, h => by
    obtain ⟨env1, e1, e2, e3⟩ := h x acc List.mem_cons_self
    have ih := fun acc' hl' => dc_pure (gd := gd) p fK fV hm hgd xs acc' hl' fun y a hy => h y a (List.mem_cons_of_mem _ hy)
    simp only [List.length_cons] at hl
    have hsz : acc.length < sizeLine := by rw [sizeLine_eq]; omega
    simp only [dcGo]
    rw [if_pos hgd, e1, Option.bind_some, e2, Option.bind_some]
    cases hp : p x with
    | true =>
      simp only [if_true]
      rw [(e3 hp).1, Option.bind_some, (e3 hp).2, Option.bind_some]
      have hk : keyT (.p (dK (fK x))) = some (fK x) := by cases fK x <;> rfl
      have hlen : (putD acc (fK x) (fV x)).length ≤ acc.length + 1 := by
        unfold putD
        split
        · rw [List.length_map]; omega
        · rw [List.length_append]; simp
      simp only
      rw [hk, Option.bind_some, unsnocD_app hm, Option.bind_some]
      simp only
      rw [if_pos hsz, ih _ (by omega), List.filter_cons, hp, if_pos rfl, List.map_cons, List.foldl_cons]
    | false =>
      simp only [Bool.false_eq_true, if_false]
      rw [unsnocD_app hm, Option.bind_some]
      simp only
      rw [ih _ (by omega), List.filter_cons, hp, if_neg Bool.false_ne_true]
noncomputable def dcK (g : GF) (ft : TF) (fk fv : EF) (vs : List Nat) (env : Env) (it : List D × Gd × Sto) : Option (T × Sto) := (dcGo g ft fk fv (wipeE env vs) it.2.2.length it.2.1 it.1 [] it.2.2).map fun z => (.loc it.2.2.length, z.2 ++ [.dic z.1])
@[simp] theorem e_dc {vs : List Nat} : dcF itf gf ft fk fv vs env S = (itf env S).bind (dcK gf ft fk fv vs env) := Eq.trans rfl rfl
theorem e_dc1 {vs : List Nat} {xs : List D} {gd : Gd} {r : KD × Sto} (h : dcGo gf ft fk fv (wipeE env vs) S.length gd xs [] S = some r) : dcK gf ft fk fv vs env (xs, gd, S) = some (.loc S.length, r.2 ++ [.dic r.1]) := by
  show (dcGo gf ft fk fv (wipeE env vs) S.length gd xs [] S).map _ = _
  rw [h]; rfl
/-! dicts -/
@[simp] theorem e_dnew : dnewF env S = some (.loc S.length, S ++ [.dic []]) := Eq.trans rfl rfl
def dgetK1 (x : T) (y : T × Sto) : Option (T × Sto) := (dictOf y.2 x).bind fun kvs => (keyT y.1).bind fun k => (valD kvs k).map fun d => (.p d, y.2)
def dgetK0 (fi : EF) (env : Env) (x : T × Sto) : Option (T × Sto) := (fi env x.2).bind (dgetK1 x.1)
@[simp] theorem e_dget : dgetF fd fi env S = (fd env S).bind (dgetK0 fi env) := Eq.trans rfl rfl
@[simp] theorem e_dget0 : dgetK0 fi env (v, S) = (fi env S).bind (dgetK1 v) := Eq.trans rfl rfl
theorem e_dget1 {kvs : KD} {q : Key} (h : dictOf S (.loc i) = some kvs) (h2 : keyOf d = some q) : dgetK1 (.loc i) (.p d, S) = (valD kvs q).map fun d => (.p d, S) := by simp only [dgetK1, h, Option.bind_some, keyT, h2]
def dgetxK2 (x y : T) (z : T × Sto) : Option (T × Sto) := (dictOf z.2 x).bind fun kvs => (keyT y).map fun k => match valD kvs k with
  | some d => (.p d, z.2)
  | none => (z.1, z.2)
def dgetxK1 (fx : EF) (env : Env) (x : T) (y : T × Sto) : Option (T × Sto) := (fx env y.2).bind (dgetxK2 x y.1)
def dgetxK0 (fi fx : EF) (env : Env) (x : T × Sto) : Option (T × Sto) := (dictOf x.2 x.1).bind fun _ => (fi env x.2).bind (dgetxK1 fx env x.1)
@[simp] theorem e_dgetx : dgetxF fd fi fx env S = (fd env S).bind (dgetxK0 fi fx env) := Eq.trans rfl rfl
theorem e_dgetx0 {kvs : KD} (h : dictOf S (.loc i) = some kvs) : dgetxK0 fi fx env (.loc i, S) = (fi env S).bind (dgetxK1 fx env (.loc i)) := by simp only [dgetxK0, h, Option.bind_some]
@[simp] theorem e_dgetx1 : dgetxK1 fx env v (w, S) = (fx env S).bind (dgetxK2 v w) := Eq.trans rfl rfl
theorem e_dgetx2 {kvs : KD} {q : Key} (h : dictOf S (.loc i) = some kvs) (h2 : keyOf d = some q) : dgetxK2 (.loc i) (.p d) (v, S) = some (match valD kvs q with | some e => (.p e, S) | none => (v, S)) := by simp only [dgetxK2, h, Option.bind_some, keyT, h2, Option.map_some]
def dinK1 (neg : Bool) (y : T) (x : T × Sto) : Option (T × Sto) := (dictOf x.2 x.1).bind fun kvs => (keyT y).map fun k => (.p (.bool (if neg then !(valD kvs k).isSome else (valD kvs k).isSome)), x.2)
def dinK0 (neg : Bool) (fd : EF) (env : Env) (y : T × Sto) : Option (T × Sto) := (fd env y.2).bind (dinK1 neg y.1)
@[simp] theorem e_din : dinF b fi fd env S = (fi env S).bind (dinK0 b fd env) := Eq.trans rfl rfl
@[simp] theorem e_din0 : dinK0 b fd env (v, S) = (fd env S).bind (dinK1 b v) := Eq.trans rfl rfl
theorem e_din1 {kvs : KD} {q : Key} (h : dictOf S (.loc i) = some kvs) (h2 : keyOf d = some q) : dinK1 b (.p d) (.loc i, S) = some (.p (.bool (if b then !(valD kvs q).isSome else (valD kvs q).isSome)), S) := by simp only [dinK1, h, Option.bind_some, keyT, h2, Option.map_some]
theorem dictOf_dic {kvs : KD} (h : S[i]? = some (.dic kvs)) : dictOf S (.loc i) = some kvs := by simp only [dictOf, h]
theorem dictOf_lck {kvs : KD} (h : S[i]? = some (.lck kvs)) : dictOf S (.loc i) = some kvs := by simp only [dictOf, h]
def dputK2 (env : Env) (M : Nat) (v o : T) (i : T × Sto) : Option (Out × Env × Sto) := match v, o with
  | .p d, .loc n => match i.2[n]? with
    | some (.dic kvs) => (keyT i.1).bind fun k => if kvs.length < sizeLine then some (.nx, env, (i.2.set n (.dic (putD kvs k d))).take M) else none
    | _ => none
  | _, _ => none
def dputK1 (fi : EF) (env : Env) (M : Nat) (v : T) (o : T × Sto) : Option (Out × Env × Sto) := (fi env o.2).bind (dputK2 env M v o.1)
def dputK0 (fd fi : EF) (env : Env) (M : Nat) (v : T × Sto) : Option (Out × Env × Sto) := (fd env v.2).bind (dputK1 fi env M v.1)
@[simp] theorem s_dput : dputS fd fi fv n env S = (fv env S).bind (dputK0 fd fi env S.length) := Eq.trans rfl rfl
@[simp] theorem s_dput0 : dputK0 fd fi env M (v, S) = (fd env S).bind (dputK1 fi env M v) := Eq.trans rfl rfl
@[simp] theorem s_dput1 : dputK1 fi env M v (w, S) = (fi env S).bind (dputK2 env M v w) := Eq.trans rfl rfl
theorem s_dput2 {kvs : KD} {q : Key} {d' : D} (h : S[i]? = some (.dic kvs)) (h2 : keyOf d' = some q) (h3 : kvs.length < sizeLine) : dputK2 env M (.p d) (.loc i) (.p d', S) = some (.nx, env, (S.set i (.dic (putD kvs q d))).take M) := by simp only [dputK2, h, keyT, h2, Option.bind_some, if_pos h3]
theorem e_lock {kvs : KD} {r : T × Sto} (h : env[i]? = some (some (.loc j))) (h2 : S[j]? = some (.dic kvs)) (h3 : f env (S.set j (.lck kvs)) = some r) (h4 : r.2[j]? = some (.lck kvs)) : lockF i f env S = some (r.1, r.2.set j (.dic kvs)) := by simp only [lockF, h, h2, h3, Option.bind_some, h4]
theorem seq_go {r : Option (Out × Env × Sto)} (h1 : s1 n env S = some (.nx, env', S')) (h2 : s2 n env' S' = r) : seqS s1 s2 n env S = r := by
  rw [s_seq, h1, Option.bind_some, s_seqN]; exact h2
theorem seq_rt (h1 : s1 n env S = some (.rt v, env', S')) : seqS s1 s2 n env S = some (.rt v, env', S') := by
  rw [s_seq, h1, Option.bind_some, s_seqR]
theorem ret_go (h : fa env S = some (v, S')) : retS fa n env S = some (.rt v, env, S') := by rw [s_ret, h]; rfl
theorem if_go1 {r : Option (Out × Env × Sto)} (h : t env S = some (true, S')) (h2 : s1 n env (S'.take S.length) = r) : ifS t s1 s2 n env S = r := by rw [s_if, h, Option.bind_some, s_if1 rfl]; exact h2
theorem if_go0 {r : Option (Out × Env × Sto)} (h : t env S = some (false, S')) (h2 : s2 n env (S'.take S.length) = r) : ifS t s1 s2 n env S = r := by rw [s_if, h, Option.bind_some, s_if0 rfl]; exact h2
/-! aug, par -/
def parK (i j : Nat) (env : Env) (m : Nat) (x : List T × Sto) : Option (Out × Env × Sto) := match x.1 with
  | [a, b] => (gcTs m x.2.length [a, b] []).bind fun y => match y.1 with
    | [a', b'] => some (.nx, (env.set i (some a')).set j (some b'), gcOb m x.2 y.2)
    | _ => none
  | _ => none
@[simp] theorem s_par : parS i j fA n env S = (fA env S).bind (parK i j env S.length) := Eq.trans rfl rfl
@[simp] theorem s_parP {d e : D} : parK i j env m ([.p d, .p e], S) = some (.nx, (env.set i (some (.p d))).set j (some (.p e)), S.take m) := by simp [parK, gcTs, gcT, gcOb]
@[simp] theorem s_parLL {o o' : O} (h : S.length = m) : parK i j env m ([.loc m, .loc (m + 1)], S ++ [o, o']) = some (.nx, (env.set i (some (.loc m))).set j (some (.loc (m + 1))), S ++ [o, o']) := by
  subst h
  have h1 : ¬ (S.length + 1 < S.length) := by omega
  simp [parK, gcTs, gcT, gcOb, h1]
@[simp] theorem s_parMM {xs ys : List T} (h : belows m xs = true) (h' : belows m ys = true) : parK i j env m ([.mix xs, .mix ys], S) = some (.nx, (env.set i (some (.mix xs))).set j (some (.mix ys)), S.take m) := by simp [parK, gcTs, gcT, gcOb, h, h']
end
end Pv
set_option maxHeartbeats 4000000
/-! Pv17: runs told by what holds behind them; == of equal data. -/
namespace Pv
open PySem PySem.Spec PyProof.Rows L2
section
variable {fa : EF} {t : TF} {env env' : Env} {S S' : Sto} {v w : T} {n i j m M : Nat} {d : D} {s1 s2 sb : SF} {Q : Out → Env → Sto → Prop}
/-- a statement runs, and then Q -/
def Rn (x : Option (Out × Env × Sto)) (Q : Out → Env → Sto → Prop) : Prop := ∃ o e s, x = some (o, e, s) ∧ Q o e s
theorem rn_seq (h1 : s1 n env S = some (.nx, env', S')) (h2 : Rn (s2 n env' S') Q) : Rn (seqS s1 s2 n env S) Q := by
  obtain ⟨o, e, s, h, q⟩ := h2
  exact ⟨o, e, s, seq_go h1 h, q⟩
theorem rn_seqQ {P : Env → Sto → Prop} (h1 : Rn (s1 n env S) fun o e s => o = .nx ∧ P e s) (h2 : ∀ env' S', P env' S' → Rn (s2 n env' S') Q) : Rn (seqS s1 s2 n env S) Q := by
  obtain ⟨o, e, s, h, rfl, p⟩ := h1
  exact rn_seq h (h2 _ _ p)
theorem rn_nx (h : s1 n env S = some (.nx, env', S')) (q : Q .nx env' S') : Rn (s1 n env S) Q := ⟨_, _, _, h, q⟩
theorem rn_ret (h : fa env S = some (v, S')) (q : Q (.rt v) env S') : Rn (retS fa n env S) Q := ⟨_, _, _, ret_go h, q⟩
theorem rn_if1 (h : t env S = some (true, S')) (h2 : Rn (s1 n env (S'.take S.length)) Q) : Rn (ifS t s1 s2 n env S) Q := by
  obtain ⟨o, e, s, g, q⟩ := h2
  exact ⟨o, e, s, if_go1 h g, q⟩
theorem rn_if0 (h : t env S = some (false, S')) (h2 : Rn (s2 n env (S'.take S.length)) Q) : Rn (ifS t s1 s2 n env S) Q := by
  obtain ⟨o, e, s, g, q⟩ := h2
  exact ⟨o, e, s, if_go0 h g, q⟩
theorem if_nx {r : Option (Out × Env × Sto)} (h : t env S = some (false, S')) (hr : some (.nx, env, S'.take S.length) = r) : ifS t s1 nextS n env S = r := if_go0 h hr
theorem m_rn {n : Nat} {b : SF} {ts : List T} {P : T × Sto → Prop} (h : Rn (b S.length (ts.map some ++ List.replicate (n - ts.length) none) S) fun o e s => ∃ r x, o = .rt r ∧ gcV S.length r s = some x ∧ P x) : ∃ x, defF n b ts S = some x ∧ P x := by
  obtain ⟨o, e, s, h, r, x, rfl, g, p⟩ := h
  exact ⟨x, m_ret h g, p⟩
end
/-! == of equal data -/
def Dk (k : Nat) (d : D) : Prop := d.canLay0 = true ∧ d.depth ≤ k
theorem dk_int {k : Nat} (i : Int) : Dk k (.int i) := ⟨by simp [PyData.canLay0], by simp [PyData.depth]⟩
theorem dk_none {k : Nat} : Dk k .none := ⟨by simp [PyData.canLay0], by simp [PyData.depth]⟩
theorem dk_bool {k : Nat} (b : Bool) : Dk k (.bool b) := ⟨by simp [PyData.canLay0], by simp [PyData.depth]⟩
theorem dk_all {k : Nat} : ∀ {xs : List D}, (∀ x ∈ xs, Dk k x) → PyData.canLayAll0 xs = true ∧ PyData.depthAll xs ≤ k
  | [], _ => ⟨by simp [PyData.canLayAll0], by simp [PyData.depthAll]⟩
  | x :: xs, h => by
    have h1 := h x List.mem_cons_self
    have h2 := dk_all fun y hy => h y (List.mem_cons_of_mem _ hy)
    refine ⟨by simp [PyData.canLayAll0, h1.1, h2.1], ?_⟩
    have := h1.2
    have := h2.2
    simp only [PyData.depthAll]
    omega
theorem dk_tup {k : Nat} {xs : List D} (h : ∀ x ∈ xs, Dk k x) : Dk (k + 1) (.tuple xs) := by
  have := dk_all h
  exact ⟨by simp [PyData.canLay0, this.1], by simp [PyData.depth]; exact this.2⟩
theorem dk_lst {k : Nat} {xs : List D} (h : ∀ x ∈ xs, Dk k x) : Dk (k + 1) (.list xs) := by
  have := dk_all h
  exact ⟨by simp [PyData.canLay0, this.1], by simp [PyData.depth]; exact this.2⟩
theorem dk_ints {k : Nat} (ns : List Int) : Dk (k + 1) (.tuple (ns.map PyData.int)) := dk_tup fun x hx => by
  obtain ⟨n, _, rfl⟩ := List.mem_map.mp hx; exact dk_int n
theorem dk_lints {k : Nat} (ns : List Int) : Dk (k + 1) (.list (ns.map PyData.int)) := dk_lst fun x hx => by
  obtain ⟨n, _, rfl⟩ := List.mem_map.mp hx; exact dk_int n
theorem dk_pair {k : Nat} {a b : D} (ha : Dk k a) (hb : Dk k b) : Dk (k + 1) (.tuple [a, b]) := dk_tup fun x hx => by
  simp at hx
  rcases hx with rfl | rfl
  · exact ha
  · exact hb
theorem dk_pairI {k : Nat} (p : Int × Int) : Dk (k + 1) (pairI p) := dk_pair (dk_int _) (dk_int _)
theorem dk_rows {k : Nat} (L : List (Int × Int)) : Dk (k + 2) (.tuple (L.map pairI)) := dk_tup fun x hx => by
  obtain ⟨n, _, rfl⟩ := List.mem_map.mp hx; exact dk_pairI n
theorem deep_of {d : D} (h : Dk 60 d) : deep d = true := by
  show (d.canLay0 && decide (d.depth ≤ 64)) = true
  rw [h.1, decide_eq_true (by have := h.2; omega)]; rfl
theorem eq_same {b : Bool} {x y : T} {S : Sto} {d : D} (h1 : datOf S x = some d) (h2 : datOf S y = some d) (h3 : Dk 60 d) : eqT b x y S = some (.p (.bool (!b)), S) := by
  rw [e_eq h1 h2 (deep_of h3) (deep_of h3), PySem.SeqAt.eqv_refl d h3.1]
  cases b <;> rfl
@[simp] theorem eqv_int (a b : Int) : PyData.eqv (.int a) (.int b) = decide (a = b) := by
  unfold PyData.eqv
  by_cases h : a = b
  · subst h; simp
  · simp [h]
@[simp] theorem e_eqI {b : Bool} {x y : Int} {S : Sto} : eqT b (.p (.int x)) (.p (.int y)) S = some (.p (.bool (if b then !decide (x = y) else decide (x = y))), S) := by
  rw [e_eq rfl rfl (deep_of (dk_int x)) (deep_of (dk_int y)), eqv_int]
end Pv
set_option maxHeartbeats 4000000
/-! Pv18: enumerate of a list, of a tuple. -/
namespace Pv
open PySem PySem.Spec PyProof.Rows L2
/-- enumerate(v): the two new cells, v told by how it begins -/
theorem mk_enum {v : Value} {ob : Obj} {G : Heap → Prop} (B : Begins v ob G) :
    Meets (Builtin.«enumerate.__new__» ⟨[.type "enumerate", v], []⟩) (fun _ R s => G s.heap ∧
      R (.ok (.ret (.ref (s.heap.push ob).objs.size))) { s with heap := (s.heap.push ob).push { cls := .type "enumerate", data := .fields #[.none, .bool false, .ref s.heap.objs.size, rawInt 0, .none, .none] } }) := .of_wp fun prog w A R st hyp => by
  obtain ⟨heap0, gn, dr, toks0, osz⟩ := st
  obtain ⟨hG, hyp⟩ := hyp
  have hsub := sub_enumerate
  have go : ∀ {A' : Around} {E' : Value → Shared → Prop} {Q' : Value → Shared → Prop}, Q' (.ref heap0.objs.size) ⟨heap0.push ob, gn, dr, toks0, osz⟩ → wpAny (model prog w) A' (pyIter v) Q' E' ⟨heap0, gn, dr, toks0, osz⟩ := fun k => B.iter prog w _ _ ⟨heap0, gn, dr, toks0, osz⟩ _ hG k
  wp_walk using go
  refine wpAny_stack_any fun stk => wpAny_pure ?_
  split
  · rename_i cl _ _ _ _ _
    cases (cl == Value.type "enumerate") <;> (wp_walk using go; exact ⟨_, rfl, hyp⟩)
  · wp_walk using go
    exact ⟨_, rfl, hyp⟩
section
variable {prog : Program} {w : World} {A : Around} {E : Value → Shared → Prop} {s : Shared}
theorem call_enum {v : Value} {ob : Obj} {G : Heap → Prop} {Q : Value → Shared → Prop} (B : Begins v ob G) (hG : G s.heap)
    (k : ∀ hp, IsEnum hp (s.heap.objs.size + 1) s.heap.objs.size 0 .none → hp.get? s.heap.objs.size = some ob → hp.objs.size = s.heap.objs.size + 2 → (∀ c u, s.heap.get? c = some u → hp.get? c = some u) → Q (.ref (s.heap.objs.size + 1)) { s with heap := hp }) :
    wpAny (model prog w) A (call (.type "enumerate") [v]) Q E s := by
  refine callType_new F.called_enumerate (by decide) (F.typeCall_enumerate_1 _) (F.newCall_enumerate_1 _) (fun ob2 => F.args_object_init_2 ob2 _) F.entry_enumerate_new (mk_enum B) ⟨hG, ?_⟩
  have sz : (s.heap.push ob).objs.size = s.heap.objs.size + 1 := Heap.size_push ..
  rw [sz]
  have en : IsEnum ((s.heap.push ob).push { cls := .type "enumerate", data := .fields #[.none, .bool false, .ref s.heap.objs.size, rawInt 0, .none, .none] }) (s.heap.objs.size + 1) s.heap.objs.size 0 .none := by
    have g := Heap.get?_push_size (s.heap.push ob) (o := { cls := .type "enumerate", data := .fields #[.none, .bool false, .ref s.heap.objs.size, rawInt 0, .none, .none] }) rfl
    rwa [sz] at g
  exact ⟨⟨_, en, rfl⟩, k _ en (Heap.get?_push_of_some _ (Heap.get?_push_size _ B.free)) (by rw [Heap.size_push, sz]) fun c u e => Heap.get?_push_of_some _ (Heap.get?_push_of_some _ e)⟩
end
/-- nothing more to draw -/
theorem draws_end {prog : Program} {w : World} {A : Around} (hh : A.handled = none) (it t : Addr) (items : Array Value) (i : Nat) (hx : items[i]? = none) :
    Draws prog w A it [it, t] i (fun _ _ => False) (fun j h => j = i ∧ h.IsTupleIter it t i ∧ h.IsTuple t items) where
  live := fun _ _ st => let ⟨o, ho, _⟩ := st.2.1; ⟨o, ho⟩
  frame := fun _ _ _ st hk => ⟨st.1, st.2.1.at fun o e => hk it (by simp) o e, st.2.2.at fun o e => hk t (by simp) o e⟩
  item := fun j s Q E hj st hQ => absurd st.1 (Nat.ne_of_lt hj)
  done := fun s Q E st hE => wpAny_nextOf_tuple_end hh st.2.1 st.2.2 hx hE
/-- the tuple at a, each item in a new pair -/
def IteT (K : PySem.W.Frag) (a : Addr) : It :=
  ⟨fun i H => ∃ (xs : List V) (x : V), SqT K H a xs ∧ xs[i]? = some x, fun i H v H' => ∃ T x, v = .ref T ∧ H T = none ∧ H' = upd H T (.tup [.int (i : Nat), x]) ∧ ∀ xs, SqT K H a xs → xs[i]? = some x, fun i H => ∃ xs : List V, SqT K H a xs ∧ xs.length ≤ i⟩
theorem turn_enumT {P : Program} {w : World} {K : PySem.W.Frag} {elts : List Expr} {kk : Nat} {tpos : Pos} (a e it : Addr) :
    Turn P w K (.Tuple elts kk tpos) (IteT K a) [e, it] e (fun i h => (∃ old, IsEnum h e it ((i : Nat) : Int) old) ∧ h.IsTupleIter it a i ∧ e ≠ it ∧ it ≠ a ∧ e ≠ a) where
  mem := by simp
  obj := fun i h st b hb => by
    obtain ⟨⟨old, he⟩, ⟨o, ho, hc, hd⟩, _⟩ := st
    rcases (show b = e ∨ b = it by simpa using hb) with z | z
    · rw [z]; exact ⟨_, he, fun v q => nomatch q⟩
    · rw [z]; exact ⟨o, ho, fun v q => by rw [hd] at q; cases q⟩
  keep := fun i h h' st k => let ⟨⟨old, he⟩, hi, hne⟩ := st; ⟨⟨old, k e (by simp) _ he⟩, hi.at fun o q => k it (by simp) o q, hne⟩
  item := by
    intro X hP hw hK hc i pins s σ H E I hf st hg
    subst hP hw hK
    obtain ⟨⟨old, he⟩, hit, hne, hia, hea⟩ := st
    obtain ⟨xs, x, hq, hx⟩ := hg
    obtain ⟨its, rv, p, hz⟩ := I.tuple hq
    obtain ⟨u, hu, ru⟩ := rv.get hx
    have hel : e < s.heap.objs.size := Heap.lt_size he
    have hil : it < s.heap.objs.size := by obtain ⟨_, q, _⟩ := hit; exact Heap.lt_size q
    have hsz : i < its.toArray.size := by
      have := (List.getElem?_eq_some_iff.mp hu).1
      simpa using this
    refine wpAny_pyNext_enum_itemC (Draws.tuple (A := X.A.in1) (I.ok.hd hc) it a (Ne.symm hia) its.toArray) he ⟨hit, p⟩ hsz hne (by simp; exact ⟨hne, hea⟩) fun y h' tk hy ho hit' hT hsz2 hk => ?_
    have hyu : y = u := by
      have h2 : its.toArray[i]? = some u := by simpa using hu
      exact Option.some.inj (hy.symm.trans h2)
    subst hyu
    refine ⟨_, rfl, wpAny_letOwnedTupleGo_enum (s := { s with heap := h', toks := tk + 1 }) ho fun h'' he' sb => ?_⟩
    have hT2 : h''.get? s.heap.objs.size = some { cls := .type "tuple", data := .seq #[.int i tk, y] } := (sb.2 _ (Nat.ne_of_gt hel)).trans hT
    have new : ObjOk X.prog X.w (upd H s.heap.objs.size (.tup [.int (i : Nat), x])) h'' s.heap.objs.size (.tup [.int (i : Nat), x]) :=
      ⟨by show 2 ≤ sizeLine; decide, [.int i tk, y], .cons ⟨_, rfl⟩ (.cons ru .nil), ⟨_, hT2, rfl, _, rfl⟩⟩
    have I1 := I.turnedNew (t' := tk + 1) (h' := h'') (ch := [e, it]) (fun b ob hb q => (sb.2 b (fun z => hb (by simp [z]))).trans (hk b ob (fun z => hb (by simp [z])) (fun z => hb (by simp [z])) q)) hf (Nat.le_refl _) new
    refine ⟨.ref s.heap.objs.size, _, I1, rfl, ⟨_, x, rfl, I.hok.fresh (Nat.le_refl _), rfl, fun ys hy => by rw [I.tuple_inj hy hq]; exact hx⟩, ⟨⟨y, ?_⟩, hit'.1.at fun o q => (sb.2 it (Ne.symm hne)).trans q, hne, hia, hea⟩, fun b hb => ?_⟩
    · rw [show ((i + 1 : Nat) : Int) = (i : Int) + 1 by omega]; exact he'
    · have hb' : b < s.heap.objs.size := by
        rcases (show b = e ∨ b = it by simpa using hb) with z | z <;> (rw [z]; assumption)
      rw [upd_ne (Nat.ne_of_lt hb')]
      exact (hf b hb).1
  done := by
    intro X hP hw hK hc i pins s σ H E I hf st hg
    subst hP hw hK
    obtain ⟨⟨old, he⟩, hit, hne, hia, hea⟩ := st
    obtain ⟨xs, hq, hx⟩ := hg
    obtain ⟨its, rv, p, hz⟩ := I.tuple hq
    have hl := rv.length
    obtain ⟨f0, f1, f2, f3, f4, f5⟩ := hf it (by simp)
    exact wpAny_pyNext_enum_endD (draws_end (A := X.A.in1) (I.ok.hd hc) it a its.toArray i (by simp; omega)) he ⟨rfl, hit, p⟩ fun h' eb => ⟨rfl, I.turned (t' := s.toks) (fun b o hb q => eb b o hb q) f0 f1 f3 f4 f5⟩
  self := fun A i s Q E st h => let ⟨⟨_, he⟩, _⟩ := st; wpAny_pyIter_enum he h
def iEnumA (K : PySem.W.Frag) (ta : TA) : TI := fun σ H R => ta σ H fun vs H1 => ∃ a xs, vs = [.ref a] ∧ ((SqL K H1 a xs ∧ R (Ite K a) H1) ∨ (SqT K H1 a xs ∧ R (IteT K a) H1))
theorem pi_enumA {X : Cx} {e : Expr} {ta : TA} {p pos tpos : Pos} {elts : List Expr} {kk : Nat} (hg : Gl X "enumerate") (hm : X.mg "enumerate" = none) (ha : PA X [e] ta) (hs : starEach [e] X.env = [(false, eval e X.env)] := by rfl) :
    PI X (.Tuple elts kk tpos) (.Call (.Name "enumerate" p) [e] [] pos) (iEnumA X.K ta) := by
  refine ⟨fun pins s σ H R I h => ?_⟩
  refine Call_ (ld_blt I hg hm boot_enumerate (PyProof.Rows.callWith_type1 (thn (ha.run pos pins s σ H _ I h) fun us s1 got => ?_) hs rfl))
  obtain ⟨vs, H1, I1, r1, a, xs, rfl, q⟩ := got
  have hv := Vals.ref1 r1
  subst hv
  have fresh : ∀ {hp : Heap}, (∀ c u, s1.heap.get? c = some u → hp.get? c = some u) → Inv X pins σ H1 { s1 with heap := hp } := fun k => I1.kept (t' := s1.toks) k
  have fp : ∀ b ∈ [s1.heap.objs.size + 1, s1.heap.objs.size], s1.heap.objs.size ≤ b := fun b hb => by
    rcases (show b = s1.heap.objs.size + 1 ∨ b = s1.heap.objs.size by simpa using hb) with z | z <;> omega
  rcases q with ⟨hq, q⟩ | ⟨hq, q⟩
  · obtain ⟨its, rv, p', hz⟩ := I1.list hq
    refine call_enumerate_list p'.isList fun h' he hit hsz hk => wpAny_pyIter_enum he ?_
    exact ⟨s1.heap.objs.size + 1, [s1.heap.objs.size + 1, s1.heap.objs.size], _, _, H1, rfl, fresh hk, turn_enum a (s1.heap.objs.size + 1) s1.heap.objs.size, ⟨⟨.none, he⟩, hit, Nat.succ_ne_self _⟩, fun b hb => I1.fpOk (fp b hb) (I1.hok.fresh (fp b hb)), q⟩
  · obtain ⟨its, rv, p', hz⟩ := I1.tuple hq
    have hlt : a < s1.heap.objs.size := by obtain ⟨o, ho, _⟩ := id p'; exact Heap.lt_size ho
    refine call_enum (begins_tuple a its.toArray) p' fun h' he hob hsz hk => wpAny_pyIter_enum he ?_
    exact ⟨s1.heap.objs.size + 1, [s1.heap.objs.size + 1, s1.heap.objs.size], _, _, H1, rfl, fresh hk, turn_enumT a (s1.heap.objs.size + 1) s1.heap.objs.size, ⟨⟨.none, he⟩, ⟨_, hob, rfl, rfl⟩, Nat.succ_ne_self _, Nat.ne_of_gt hlt, Nat.ne_of_gt (Nat.lt_succ_of_lt hlt)⟩, fun b hb => I1.fpOk (fp b hb) (I1.hok.fresh (fp b hb)), q⟩
/-! ### enumerate, by functions -/
def enumG (i : Nat) (xs : List D) : List D := match xs with
  | [] => []
  | x :: xs => .tuple [.int (i : Nat), x] :: enumG (i + 1) xs
def enumD (xs : List D) : List D := enumG 0 xs
theorem enumG_get : ∀ {xs : List D} {i j : Nat} {d : D}, (enumG j xs)[i]? = some d → ∃ x, xs[i]? = some x ∧ d = .tuple [.int ((j + i : Nat) : Int), x]
  | [], i, j, d, h => by simp [enumG] at h
  | x :: xs, 0, j, d, h => by simp [enumG] at h; exact ⟨x, rfl, by rw [← h]; rfl⟩
  | x :: xs, i + 1, j, d, h => by
    obtain ⟨y, e, q⟩ := enumG_get (xs := xs) (i := i) (j := j + 1) (d := d) (by simpa [enumG] using h)
    exact ⟨y, by simpa using e, by rw [q, show j + 1 + i = j + (i + 1) by omega]⟩
theorem enumG_len : ∀ (xs : List D) (j : Nat), (enumG j xs).length = xs.length
  | [], _ => rfl
  | x :: xs, j => by simp [enumG, enumG_len xs]
theorem enumD_get {xs : List D} {i : Nat} {d : D} (h : (enumD xs)[i]? = some d) : ∃ x, xs[i]? = some x ∧ d = .tuple [.int (i : Nat), x] := by
  obtain ⟨x, e, q⟩ := enumG_get h
  exact ⟨x, e, by rw [q, Nat.zero_add]⟩
def enumI (fA : AF) : IF := fun env S => (fA env S).bind fun x => match x.1 with
  | [a] => (seqG x.2 a).map fun u => (enumD u.1, u.2, x.2)
  | _ => none
theorem pvi_enum {X : Cx} {e : Expr} {elts : List Expr} {kk : Nat} {p pos tpos : Pos} {tA : TA} {fA : AF} (hg : Gl X "enumerate") (hm : X.mg "enumerate" = none) (ha : PVA X [e] tA fA) (hs : starEach [e] X.env = [(false, eval e X.env)] := by rfl) :
    PVI X (.Tuple elts kk tpos) (.Call (.Name "enumerate" p) [e] [] pos) (iEnumA X.K tA) (enumI fA) := by
  refine ⟨pi_enumA hg hm ha.pa hs, ?_⟩
  intro σ H A env S xs gd S' hE hS hf R hR
  obtain ⟨⟨x, S1⟩, e1, hf⟩ := Option.bind_eq_some_iff.mp hf
  refine ha.ok σ H A env S x S1 hE hS e1 _ fun us H1 A1 p1 k1 s1 r1 => ?_
  simp only at hf
  split at hf
  · next ta =>
    obtain ⟨⟨da, ga⟩, e2, hf⟩ := Option.map_eq_some_iff.mp hf
    cases hf
    obtain ⟨va, rfl, ra⟩ := r1.one
    cases hta : isTupT ta with
    | false =>
      obtain ⟨aa, rfl, qa⟩ := seqG_list s1 ra hta e2
      obtain ⟨wa, sa, _⟩ := qa.sq H1 A1 _ (Keep.refl _) s1 (fun _ _ => rfl) (fun p hp => by
        cases ra with
        | loc e => simp only [seqG] at e2; split at e2 <;> cases e2; rcases List.mem_cons.mp hp with h | h; (rw [h]; assumption); simp at h
        | ro => cases e2; simp at hp
        | mix => cases e2
        | ft => cases e2
        | p r => cases r <;> first | cases hta | cases e2)
      refine ⟨aa, wa, rfl, .inl ⟨sa, hR _ H1 A1 p1 k1 s1 (fun p hp => qa.lt p hp) ⟨fun i H2 A2 S2 d k2 s2 hA hG hd => ?_, fun i H2 A2 S2 k2 s2 hA hG hl => ?_⟩⟩⟩
      · obtain ⟨u, su, ru⟩ := qa.sq H2 A2 S2 k2 s2 hA hG
        obtain ⟨dx, hx, rfl⟩ := enumD_get hd
        obtain ⟨vx, ex, rx⟩ := ru.get hx
        refine ⟨⟨u, vx, su, ex⟩, fun y H3 hy' => ?_⟩
        obtain ⟨z, x', rfl, hz, rfl, f1⟩ := hy'
        have g1 := f1 u su
        rw [ex] at g1; cases g1
        exact ⟨Keep.new hz, s2.new hz, .tup (SqT.of upd_same) ((Rps.cons (.int _) (.cons rx .nil)).keep (Keep.new hz))⟩
      · obtain ⟨u, su, ru⟩ := qa.sq H2 A2 S2 k2 s2 hA hG
        refine ⟨u, su, ?_⟩
        rw [ru.length]
        have q : (enumD da).length = da.length := enumG_len da 0
        have q2 : (enumD da).length ≤ i := hl
        omega
    | true =>
      obtain ⟨xa, rfl⟩ : ∃ xa, ta = .p (.tuple xa) := by
        unfold isTupT at hta; split at hta
        · exact ⟨_, rfl⟩
        · cases hta
      cases e2
      obtain ⟨aa, wa, rfl, sa, ra⟩ := ra.tupOf
      refine ⟨aa, wa, rfl, .inr ⟨sa, hR _ H1 A1 p1 k1 s1 (fun p hp => by simp at hp) ⟨fun i H2 A2 S2 d k2 s2 hA hG hd => ?_, fun i H2 A2 S2 k2 s2 hA hG hl => ?_⟩⟩⟩
      · obtain ⟨dx, hx, rfl⟩ := enumD_get hd
        obtain ⟨vx, ex, rx⟩ := (ra.keep k2).get hx
        have su := k2.sqt (K := X.K) sa
        refine ⟨⟨wa, vx, su, ex⟩, fun y H3 hy' => ?_⟩
        obtain ⟨z, x', rfl, hz, rfl, f1⟩ := hy'
        have g1 := f1 wa su
        rw [ex] at g1; cases g1
        exact ⟨Keep.new hz, s2.new hz, .tup (SqT.of upd_same) ((Rps.cons (.int _) (.cons rx .nil)).keep (Keep.new hz))⟩
      · refine ⟨wa, k2.sqt sa, ?_⟩
        rw [ra.length]
        have q : (enumD da).length = da.length := enumG_len da 0
        have q2 : (enumD da).length ≤ i := hl
        omega
  · cases hf
end Pv
set_option maxHeartbeats 4000000
/-! Pv19: stars in displays, sum and max of tuples, tuples turned about, repr of whole numbers, long tuples, sorted(dict). -/
namespace Pv
open PySem PySem.Spec PyProof.Rows L2
section
variable {X : Cx} {a b e : Expr} {es : List Expr} {ta tb te : TE} {fa fb fe : EF} {tA : TA} {fA : AF} {pos p p2 : Pos}
/-! ### *e in a display -/
def starF (fe : EF) (g : AF) : AF := fun env S => (fe env S).bind fun x => (seqOf x.2 x.1).bind fun ds => (g env x.2).map fun y => (ds.map T.p ++ y.1, y.2)
theorem Rts.ofP {K : PySem.W.Frag} {H : Hp} {A : List Addr} : ∀ {vs : List V} {ds : List D}, Rps K H vs ds → Rts K H A vs (ds.map T.p)
  | _, _, .nil => .nil
  | _, _, .cons r t => .cons (.p r) (Rts.ofP t)
theorem Rts.app {K : PySem.W.Frag} {H : Hp} {A : List Addr} : ∀ {vs us : List V} {ts ss : List T}, Rts K H A vs ts → Rts K H A us ss → Rts K H A (vs ++ us) (ts ++ ss)
  | _, _, _, _, .nil, s => s
  | _, _, _, _, .cons r t, s => .cons r (Rts.app t s)
theorem pva_star (he : PV X e te fe) (hr : PVA X es tA fA) (hs : starEach (.Starred e p :: es) X.env = (true, eval e X.env) :: starEach es X.env := by rfl) : PVA X (.Starred e p :: es) (StX.tStar X.K te tA) (starF fe fA) := by
  refine ⟨StX.pa_star he.pe hr.pa hs, ?_⟩
  intro σ H A env S v S' hE hS hf Q hq
  obtain ⟨⟨x, S1⟩, e1, hf⟩ := Option.bind_eq_some_iff.mp hf
  obtain ⟨ds, e2, hf⟩ := Option.bind_eq_some_iff.mp hf
  obtain ⟨⟨y, S2⟩, e3, hf⟩ := Option.map_eq_some_iff.mp hf
  cases hf
  refine he.ok σ H A env S x S1 hE hS e1 _ fun u H1 A1 p1 k1 s1 r1 => ?_
  obtain ⟨l, vs, rfl, hl, rv⟩ := seqOf_ok s1 r1 e2
  refine ⟨l, vs, rfl, hl.symm, ?_⟩
  exact hr.ok σ H1 A1 env S1 y S2 (hE.keep k1 p1) s1 e3 _ fun us H2 A2 p2 k2 s2 r2 => hq _ H2 A2 (p1.trans p2) (k1.trans k2) s2 (Rts.app (Rts.ofP (rv.keep k2)) r2)
/-! ### sum of a tuple -/
def rSumP (K : PySem.W.Frag) : List V → Hp → VK → Prop := fun vs H Q => ∃ (a : Addr) (ns : List Int), vs = [V.ref a] ∧ SqT K H a (ns.map V.int) ∧ Q (.int ns.sum) H
theorem cr_sumP (hc : X.calm = true) : CallR X (.builtin "sum") (rSumP X.K) := by
  intro pins s σ H vs us Q I r h
  obtain ⟨a, ns, rfl, hs, q⟩ := h
  obtain ⟨its, rv, hl, _⟩ := I.tuple hs
  rw [Vals.ref1 r]
  have hi := rv.ints
  obtain ⟨xs, hx⟩ := hi.allInts.items
  have hn : numsOf its.toArray.toList = ns := by rw [show its.toArray.toList = its from rfl, hi.numsOf]
  have hl' : s.heap.IsTuple a its.toArray := hl
  rw [hx] at hl' hn
  rw [nums_intItems] at hn
  refine PySem.W.ktm_sumG (I.ok.hd hc) hl' fun h' tk t' hk => ?_
  rw [preSum_eq, List.take_of_length_le (by simp), hn]
  exact ⟨.int _, H, I.kept hk, ⟨_, rfl⟩, q⟩
theorem cr_sumPK (K : PySem.W.Frag) (hc : X.calm = true) (hK : X.K = K := by rfl) : CallR X (.builtin "sum") (rSumP K) := by subst hK; exact cr_sumP hc
def sumPT : DF := fun ts S => match ts with
  | [.p (.tuple ds)] => (intsOf ds).map fun ns => (.p (.int ns.sum), S)
  | _ => none
theorem sumP_ok {K : PySem.W.Frag} : CallOk K (rSumP K) sumPT := by
  intro H A S vs ts v S' hs rs h Q hq
  unfold sumPT at h
  split at h
  · obtain ⟨x, rfl, r⟩ := rs.one
    obtain ⟨ns, e, h⟩ := Option.map_eq_some_iff.mp h
    cases h
    obtain ⟨l, ws, rfl, hl, r1⟩ := r.tupOf
    rw [intsOf_eq e] at r1
    rw [r1.of_ints] at hl
    exact ⟨l, ns, rfl, hl, hq _ H A (Pre.refl A) (Keep.refl H) hs (.p (.int _))⟩
  · cases h
/-! ### repr of a whole number -/
def rReprN : List V → Hp → VK → Prop := fun xs H Q => (∃ i, xs = [V.int i] ∧ i.natAbs.log2 < 1920 ∧ Q (.str (toString i)) H) ∨ rRepr xs H Q
theorem cr_reprN : CallR X (.builtin "repr") rReprN := by
  intro pins s σ H vs us Q I r h
  rcases h with ⟨i, rfl, hi, q⟩ | h
  · obtain ⟨u, rfl, ru⟩ := vals1 r
    obtain ⟨t, rfl⟩ := ru
    exact PySem.P.repr_of_int hi ⟨.str _, H, I.tok _, ⟨_, rfl⟩, q⟩
  · exact cr_repr pins s σ H vs us Q I r h
def reprNT : DF := fun ts S => match ts with
  | [.p (.int i)] => if i.natAbs.log2 < 1920 then some (.p (.str (toString i)), S) else none
  | ts => reprT ts S
theorem reprN_ok {K : PySem.W.Frag} : CallOk K rReprN reprNT := by
  intro H A S vs ts v S' hs rs h Q hq
  unfold reprNT at h
  split at h
  · split at h
    · next hi =>
      cases h
      obtain ⟨x, rfl, r⟩ := rs.one
      cases r with
      | p r => cases r; exact .inl ⟨_, rfl, hi, hq _ H A (Pre.refl A) (Keep.refl H) hs (.p (.str _))⟩
    · cases h
  · exact .inr (repr_ok H A S vs _ v S' hs rs h Q hq)
/-! ### max, min of a tuple -/
theorem max_intTup {prog : Program} {w : World} {A : Around} {E : Value → Shared → Prop} {s : Shared} {l : Addr} {xs : Array (Int × Tok)} {Q : Value → Shared → Prop} (hh : A.handled = none) (hl : s.heap.IsTuple l (intItems xs)) (hne : 0 < xs.size)
    (k : ∀ v h' tk, (intItems xs)[argBest (fun i j => decide (numAt xs i > numAt xs j)) (xs.size - 1)]? = some v → (∀ b o, s.heap.get? b = some o → h'.get? b = some o) → Q v { s with heap := h', toks := tk }) :
    wpAny (model prog w) A (call (.builtin "max") [.ref l]) Q E s := by
  obtain ⟨ob, ho, hc, n, hd⟩ := id hl
  have nl : l ≠ s.heap.objs.size := Nat.ne_of_lt (Heap.lt_size ho)
  refine call_max_walk (wpAny_pyIter_tuple hl ?_)
  refine ⟨s.heap.objs.size, _, _, _, _, _, _, rfl, Walks.tuple (A := A.in1) hh s.heap.objs.size l nl (intItems xs), ⟨⟨_, Heap.get?_push_size _ rfl, rfl, rfl⟩, hl.at fun o e => Heap.get?_push_of_some _ e⟩, fun b hb => ?_, by simpa [intItems] using hne, CmpOf.ints_gt (numAt xs) (fun _ _ => intItems_at), fun v h' tk hP hk => ?_⟩
  · rcases (show b = s.heap.objs.size ∨ b = l by simpa using hb) with rfl | rfl
    · exact Heap.lt_size (Heap.get?_push_size _ rfl)
    · exact Heap.lt_size (Heap.get?_push_of_some _ ho)
  · refine k v h' tk (by simpa [intItems] using hP) fun b o e => hk b o (fun hm => ?_) (Heap.get?_push_of_some _ e)
    rw [List.mem_singleton.mp hm] at e
    exact absurd (Heap.lt_size e) (Nat.lt_irrefl _)
def rMaxP (K : PySem.W.Frag) : List V → Hp → VK → Prop := fun vs H Q => ∃ (a : Addr) (ns : List Int), vs = [V.ref a] ∧ SqT K H a (ns.map V.int) ∧ 0 < ns.length ∧ Q (.int (maxI ns)) H
theorem cr_maxP (hc : X.calm = true) : CallR X (.builtin "max") (rMaxP X.K) := by
  intro pins s σ H vs us Q I r h
  obtain ⟨a, ns, rfl, hs, hne, q⟩ := h
  obtain ⟨its, rv, hl, _⟩ := I.tuple hs
  rw [Vals.ref1 r]
  have hi := rv.ints
  obtain ⟨xs, hx⟩ := hi.allInts.items
  have hn : numsOf its.toArray.toList = ns := by rw [show its.toArray.toList = its from rfl, hi.numsOf]
  have hl' : s.heap.IsTuple a its.toArray := hl
  rw [hx] at hl' hn
  rw [nums_intItems] at hn
  have hsz : 0 < xs.size := by rw [← hn] at hne; simpa using hne
  refine max_intTup (I.ok.hd hc) hl' hsz fun v h' tk hv hk => ?_
  obtain ⟨t, rfl⟩ := intItems_at hv
  obtain ⟨h1, h2⟩ := argBest_gt (numAt xs) (xs.size - 1)
  have e1 : numAt xs (argBest (fun i j => decide (numAt xs i > numAt xs j)) (xs.size - 1)) = maxI ns := by
    have hns : ns ≠ [] := fun e => by rw [e] at hne; exact absurd hne (by simp)
    obtain ⟨q1, q2⟩ := maxI_spec hns
    refine Int.le_antisymm (q2 _ ?_) ?_
    · rw [← hn, numAt_eq]; exact PySem.getD_mem (by rw [List.length_map, Array.length_toList]; omega)
    · rw [← hn] at q1
      obtain ⟨j, hj, e⟩ := mem_getD q1
      rw [List.length_map, Array.length_toList] at hj
      rw [← hn, ← e, ← numAt_eq]
      exact h2 j (by omega)
  rw [e1]
  exact ⟨.int _, H, I.kept hk, ⟨_, rfl⟩, q⟩
theorem cr_maxPK (K : PySem.W.Frag) (hc : X.calm = true) (hK : X.K = K := by rfl) : CallR X (.builtin "max") (rMaxP K) := by subst hK; exact cr_maxP hc
def maxPT : DF := fun ts S => match ts with
  | [.p (.tuple ds)] => (intsOf ds).bind fun ns => if 0 < ns.length then some (.p (.int (maxI ns)), S) else none
  | _ => none
theorem maxP_ok {K : PySem.W.Frag} : CallOk K (rMaxP K) maxPT := by
  intro H A S vs ts v S' hs rs h Q hq
  unfold maxPT at h
  split at h
  · obtain ⟨x, rfl, r⟩ := rs.one
    obtain ⟨ns, e, h⟩ := Option.bind_eq_some_iff.mp h
    split at h
    · next hn =>
      cases h
      obtain ⟨l, ws, rfl, hl, r1⟩ := r.tupOf
      rw [intsOf_eq e] at r1
      rw [r1.of_ints] at hl
      exact ⟨l, ns, rfl, hl, hn, hq _ H A (Pre.refl A) (Keep.refl H) hs (.p (.int _))⟩
    · cases h
  · cases h
end
end Pv
set_option maxHeartbeats 4000000
/-! Pv20: tuples turned about, long tuples, sorted(dict), a dict of one pair. -/
namespace Pv
open PySem PySem.Spec PyProof.Rows L2
/-! ### t[::-1] -/
theorem fm_congr {α β : Type} {f g : α → Option β} : ∀ {l : List α}, (∀ x ∈ l, f x = g x) → l.filterMap f = l.filterMap g
  | [], _ => rfl
  | x :: l, h => by
    rw [List.filterMap_cons, List.filterMap_cons, h x List.mem_cons_self, fm_congr fun y hy => h y (List.mem_cons_of_mem _ hy)]
theorem rev_pick (xs : Array Value) : ((List.range xs.size).filterMap fun (k : Nat) => xs[(((xs.size : Int) - 1) + (k : Int) * (-1)).toNat]?) = xs.toList.reverse := by
  have e : ∀ k ∈ List.range xs.size, xs[(((xs.size : Int) - 1) + (k : Int) * (-1)).toNat]? = xs[xs.size - 1 - k]? := fun k hk => by
    have := List.mem_range.mp hk
    congr 1
    omega
  rw [fm_congr e]
  have f : (fun k : Nat => xs[xs.size - 1 - k]?) = (fun i => xs[i]?) ∘ fun k => xs.size - 1 - k := rfl
  rw [f, ← List.filterMap_map, PySem.W.krv_range, List.filterMap_reverse, PySem.W.krv_all]
section
variable {prog : Program} {w : World} {A : Around} {E : Value → Shared → Prop} {s : Shared}
theorem applied_rev {sl : Addr} {vs : Value} {n : Nat} {Q : Int × Int × Nat → Shared → Prop} (hs : s.heap.IsSliceOf sl .none .none vs) (ps : IsPart vs (some (-1))) (k : Q ((n : Int) - 1, -1, n) s) :
    wpAny (model prog w) A (Builtin.Slice.sliceApplied (.ref sl) (pure (n : Int))) Q E s := by
  obtain ⟨so, hso, cso, dso⟩ := id hs
  unfold Builtin.Slice.sliceApplied Builtin.Slice.sliceFields
  refine wpAny_bind (wpAny_bind (wpAny_field hso dso (x := .none) rfl (wpAny_bind (wpAny_field hso dso (x := .none) rfl (wpAny_bind (wpAny_field hso dso (x := vs) rfl (wpAny_pure ?_)))))))
  refine wpAny_bind (HT.slicePart_ ps ?_)
  show wpAny _ _ (if ((-1 : Int) == 0) = true then _ else _) _ _ s
  rw [if_neg (by decide)]
  refine wpAny_bind (HT.slicePart_ .none (wpAny_bind (HT.slicePart_ .none (wpAny_bind (wpAny_pure ?_)))))
  show wpAny _ _ (pure (((n : Int) - 1), (-1 : Int), Builtin.Slice.slicePlaces ((n : Int) - 1) (-1) (-1))) _ _ s
  have e : Builtin.Slice.slicePlaces ((n : Int) - 1) (-1) (-1) = n := by
    unfold Builtin.Slice.slicePlaces
    rw [if_neg (by decide)]
    by_cases h : (n : Int) - 1 > -1
    · rw [if_pos h, show (-(-1 : Int)) = 1 from rfl, Int.ediv_one]; omega
    · rw [if_neg h]; omega
  rw [e]
  exact wpAny_pure k
theorem getItem_tuple_rev {t sl : Addr} {items : Array Value} {vs : Value} {Q : Value → Shared → Prop} (ht : IsTup s.heap t items) (hs : s.heap.IsSliceOf sl .none .none vs) (ps : IsPart vs (some (-1)))
    (k : Q (.ref s.heap.objs.size) { s with heap := s.heap.push { cls := .type "tuple", data := .seq items.toList.reverse.toArray } }) (hsz : items.size ≤ sizeLine) : wpAny (model prog w) A (getItem (.ref t) (.ref sl)) Q E s := by
  have szo : sizeOk (.seq items.toList.reverse.toArray) := by
    show items.toList.reverse.toArray.size ≤ sizeLine
    rw [List.size_toArray, List.length_reverse, Array.length_toList]; exact hsz
  obtain ⟨so, hso, cso, dso⟩ := id hs
  have hTs : s.TypeIs (.ref sl) "slice" := ⟨so, hso, cso⟩
  unfold getItem
  try with_reducible refine wpAny_holding ?_
  first | refine wpAny_bind (wpAny_pure ?_) | skip
  refine wpAny_bind (wpAny_sequenceKey ht.typeIs (by decide) (wpAny_bind (wpAny_callSpecial?_slot (name := Str.ofString "__getitem__") ht.typeIs PyProof.Rows.slot_tuple_getitem (wpAny_call_entry PyProof.Rows.slot_tuple_getitem ht.typeIs entry_tuple_getitem ?_ (args_tuple_getitem _ _)))))
  refine wpAny_bind (m := Builtin.Tuple.tupleItemsOf (.ref t)) (tupleItemsOf_ ht (wpAny_bind (wpAny_typeOf hTs ?_)))
  rw [if_pos (by decide)]
  refine wpAny_bind (applied_rev hs ps ?_)
  show wpAny _ _ (if (((items.size : Int) - 1 == 0) && ((-1 : Int) == 1) && (items.size == items.size)) = true then _ else _) _ _ s
  rw [if_neg (by rw [show ((-1 : Int) == 1) = false from rfl, Bool.and_false, Bool.false_and]; exact Bool.false_ne_true), rev_pick]
  first
    | exact wpAny_bind (m := Builtin.Tuple.tupleExact _) (wpAny_newObj_type (wpAny_pure ⟨_, rfl, wpAny_pure k⟩) szo)
    | exact wpAny_bind (wpAny_bind (m := Builtin.Tuple.tupleExact _) (wpAny_newObj_type (wpAny_pure (wpAny_pure ⟨_, rfl, wpAny_pure k⟩)) szo))
    | exact wpAny_bind (wpAny_bind (m := Builtin.Tuple.tupleExact _) (wpAny_newObj_type (wpAny_pure ⟨_, rfl, wpAny_pure k⟩) szo))
end
section
variable {X : Cx} {a b e : Expr} {ta tb te : TE} {fa fb fe : EF} {pos p : Pos}
def tRevP (K : PySem.W.Frag) (te : TE) : TE := fun σ H Q => te σ H fun x H1 => ∃ a xs, x = .ref a ∧ SqT K H1 a xs ∧ ∀ q, H1 q = none → Q (.ref q) (upd H1 q (.tup xs.reverse))
theorem pe_revP {e : Expr} {te : TE} {k : Nat} {p1 p2 p3 pos : Pos} (he : PE X e te) : PE X (.Subscript e (.Slice none none (some (.UnaryOp .USub (.Constant (.int 1) k p1) p2)) p3) pos) (tRevP X.K te) := by
  refine ⟨fun pins s σ H Q I h => Subscript_ (thn (he.run pins s σ H _ I h) fun v s1 ⟨x, H1, I1, r1, q1⟩ => ?_)⟩
  obtain ⟨a, xs, rfl, hx, q⟩ := q1
  cases r1
  have step : PO X (some (.UnaryOp .USub (.Constant (.int 1) k p1) p2)) (tPart (tUn (rU fun i => .int (-i)) (tC (.int 1)))) := po_some (pe_un un_neg pe_int)
  refine wpAny_Slice (thn (po_none.run pins s1 σ H1 (fun o H2 => o = none ∧ H2 = H1) I1 ⟨rfl, rfl⟩) fun vl s2 ⟨l, H2, I2, pl, hl, e2⟩ => ?_)
  subst hl; subst e2
  refine thn (po_none.run pins s2 σ H2 (fun o H3 => o = none ∧ H3 = H2) I2 ⟨rfl, rfl⟩) fun vu s3 ⟨u, H3, I3, pu, hu, e3⟩ => ?_
  subst hu; subst e3
  refine thn (step.run pins s3 σ H3 (fun o H4 => o = some (-1) ∧ H4 = H3) I3 ⟨1, rfl, -1, rfl, rfl, rfl⟩) fun vs s4 ⟨o, H4, I4, ps, ho, e4⟩ => ?_
  subst ho; subst e4
  have nl : vl = .none := by cases pl; rfl
  have nu : vu = .none := by cases pu; rfl
  subst nl; subst nu
  have I5 : Inv X pins σ H4 { s4 with heap := s4.heap.push { cls := .type "slice", data := .fields #[.none, .none, vs] } } := I4.kept (t' := s4.toks) fun _ _ g => Heap.get?_push_of_some _ g
  obtain ⟨its, r, ht, hz⟩ := I5.tuple hx
  have hlen := r.length
  show wpAny (model X.prog X.w) X.A (subscriptTail e (.Slice none none (some (.UnaryOp .USub (.Constant (.int 1) k p1) p2)) p3) (.ref a) (.ref s4.heap.objs.size)) (EP X pins σ Q) X.xe _
  refine tail_any (ops := [.ref a, .ref s4.heap.objs.size]) ht.typeIs PyProof.Rows.slot_tuple_getitem.lookup ?_ (by with_unfolding_all rfl)
  refine getItem_tuple_rev ht (Heap.IsSliceOf.new _ .none .none vs) ps ?_ (by rw [List.size_toArray]; omega)
  refine ⟨.ref _, _, I5.laid (t' := s4.toks) (o := .tup xs.reverse) (fun _ _ g => Heap.get?_push_of_some _ g) (Nat.le_refl _) ?_, rfl, q _ (I5.hok.fresh (Nat.le_refl _))⟩
  exact ⟨by rw [List.length_reverse]; exact hz, _, r.reverse, IsTup.new _ _⟩
def revPF (fe : EF) : EF := fun env S => (fe env S).bind fun x => match x.1 with
  | .p (.tuple ds) => some (.p (.tuple ds.reverse), x.2)
  | _ => none
theorem pv_revP {k : Nat} {p1 p2 p3 pos : Pos} (he : PV X e te fe) : PV X (.Subscript e (.Slice none none (some (.UnaryOp .USub (.Constant (.int 1) k p1) p2)) p3) pos) (tRevP X.K te) (revPF fe) := by
  refine ⟨pe_revP he.pe, ?_⟩
  intro σ H A env S v S' hE hS hf Q hq
  obtain ⟨⟨x, S1⟩, e1, hf⟩ := Option.bind_eq_some_iff.mp hf
  simp only at hf
  split at hf
  · cases hf
    refine he.ok σ H A env S _ _ hE hS e1 _ fun u H1 A1 p1 k1 s1 r1 => ?_
    obtain ⟨l, vs, rfl, sv, rv⟩ := r1.tupOf
    exact ⟨l, vs, rfl, sv, fun z hz => hq _ _ A1 p1 (k1.trans (Keep.new hz)) (s1.new hz) (.p (.tup (SqT.of upd_same) (rv.rev.keep (Keep.new hz))))⟩
  · cases hf
theorem pv_revPK (K : PySem.W.Frag) {k : Nat} {p1 p2 p3 pos : Pos} (he : PV X e te fe) (hK : X.K = K := by rfl) : PV X (.Subscript e (.Slice none none (some (.UnaryOp .USub (.Constant (.int 1) k p1) p2)) p3) pos) (tRevP K te) (revPF fe) := by subst hK; exact pv_revP he
/-! ### t * k, long -/
def rRepW (K : PySem.W.Frag) : R2 := fun x y H Q => ∃ l k xs, x = .ref l ∧ y = .int k ∧ SqT K H l xs ∧ xs ≠ [] ∧ 2 ≤ k ∧ k < 2 ^ 40 ∧ xs.length * k.toNat ≤ 100000 ∧ ∀ q, H q = none → Q (.ref q) (upd H q (.tup (List.replicate k.toNat xs).flatten))
theorem op_repW : OpR X (binaryOp .Mult) (rRepW X.K) := by
  intro pins s σ H x y v u Q I rx ry h
  obtain ⟨l, k, xs, rfl, rfl, hT, hne, h1, h2, hz, q⟩ := h
  cases rx
  obtain ⟨t, rfl⟩ := ry
  obtain ⟨its, r, ⟨⟨cls, dd, data, sl⟩, ho, hc, n, hd⟩, hs⟩ := I.tuple hT
  simp only at hc hd
  subst hc; subst hd
  have hle : its.length = xs.length := r.length.symm
  have hi : its.toArray.isEmpty = false := by
    cases its with
    | nil => exact absurd (List.eq_nil_of_length_eq_zero hle.symm) hne
    | cons _ _ => rfl
  have hm : ((its.toArray.size : Nat) : Int) * k ≤ 100000 := by
    rw [List.size_toArray, hle]
    have : ((xs.length * k.toNat : Nat) : Int) = (xs.length : Int) * k := by rw [Int.natCast_mul, Int.toNat_of_nonneg (by omega)]
    omega
  have flen : (List.replicate k.toNat its).flatten.length ≤ sizeLine := by
    rw [PyProof.Rows.lm_len_rep_flat, hle, sizeLine_eq, Nat.mul_comm]; omega
  refine wpAny_binaryOp_repeat_ref (T := "tuple") (U := "int") (by decide) ⟨_, ho, rfl⟩ (fun s' => typeIs_int s' k t) noFill_tuple_mul F.fills_int_mul F.slot_int_rmul repeat_tuple F.slot_int_index.lookup
    (call_meets F.slot_int_rmul (typeIs_int s k t) F.entry_int_rmul (F.args_int_rmul_2 _ _) (int_rmul_tuple k t l its.toArray n dd sl) ⟨ho, rfl, ⟨_, ho, rfl⟩, call_meets F.slot_tuple_mul ⟨_, ho, rfl⟩ F.entry_tuple_mul (F.args_tuple_mul_2 _ _) (tuple_mulW l its.toArray n dd sl k t ?_ ?_ ?_ (by omega) ?_ (by rw [size_rep, List.size_toArray]; exact flen)) ⟨ho, ?_⟩⟩)
  · rw [decide_eq_false (by omega), decide_eq_false (by omega)] <;> rfl
  · rw [hi, Bool.false_or]; exact beq_eq_false_iff_ne.mpr (by omega)
  · rw [hi, Bool.or_false]; exact decide_eq_false (by omega)
  · unfold Builtin.Tuple.tupleTooMany
    rw [sizeLine_eq]; exact decide_eq_false (by omega)
  · rw [size_rep]
    refine ⟨.ref s.heap.objs.size, _, I.laid (t' := s.toks) (o := .tup (List.replicate k.toNat xs).flatten) (fun _ _ g => Heap.get?_push_of_some _ g) (Nat.le_refl _) ?_, rfl, q _ (I.hok.fresh (Nat.le_refl _))⟩
    exact ⟨by rw [PyProof.Rows.lm_len_rep_flat, sizeLine_eq, Nat.mul_comm]; omega, _, r.rep k.toNat, IsTup.new _ _⟩
def rMulT (K : PySem.W.Frag) : R2 := fun x y H Q => rRepW K x y H Q ∨ rMul K x y H Q
theorem op_mulT : OpR X (binaryOp .Mult) (rMulT X.K) := op_repW.or op_mulA
def mulPT : Op2 := fun x y S => match x, y with
  | .p (.tuple xs), .p (.int k) => if -(2 ^ 63) ≤ k ∧ k < 2 ^ 40 ∧ xs.length * k.toNat ≤ 100000 then some (.p (.tuple (repD k xs)), S) else none
  | _, _ => none
theorem mulP_ok {K : PySem.W.Frag} : OpOk K (rMulT K) mulPT := by
  intro H A S x y a b v S' hs rx ry h Q hq
  unfold mulPT at h
  split at h
  · next xs k =>
    split at h
    · next hc =>
      cases h
      by_cases h2 : 2 ≤ k ∧ xs ≠ []
      · obtain ⟨l, vs, rfl, s, r⟩ := rx.tupOf
        cases ry with
        | p ry =>
          cases ry
          have hlen := r.length
          refine .inl ⟨l, k, vs, rfl, rfl, s, fun e => h2.2 (by rw [e] at hlen; exact List.eq_nil_of_length_eq_zero hlen.symm), h2.1, hc.2.1, by rw [hlen]; exact hc.2.2, fun z hz => hq _ _ A (Pre.refl A) (Keep.new hz) (hs.new hz) (.p (.tup (SqT.of upd_same) ((r.rep k.toNat).keep (Keep.new hz))))⟩
      · by_cases h3 : xs = []
        · subst h3
          have e : repD k ([] : List D) = repD 1 [] := by unfold repD; simp
          rw [e] at hq
          refine .inr ?_
          obtain ⟨l, vs, rfl, s, r⟩ := rx.tupOf
          cases ry with
          | p ry =>
            cases ry
            cases r
            refine .inr (.inl (.inr ⟨l, k, [], rfl, rfl, s, .inl rfl, hc.1, by omega, hq _ H A (Pre.refl A) (Keep.refl H) hs (.p ?_)⟩))
            have : repD 1 ([] : List D) = [] := by unfold repD; simp
            rw [this]
            exact .tup s .nil
        · obtain ⟨l, vs, rfl, s, r⟩ := rx.tupOf
          cases ry with
          | p ry =>
            cases ry
            have hlen := r.length
            have e0 : vs ≠ [] := fun e => h3 (by rw [e] at hlen; exact List.eq_nil_of_length_eq_zero hlen.symm)
            by_cases e1 : k = 1
            · subst e1
              refine .inr (.inr (.inl (.inr ⟨l, 1, vs, rfl, rfl, s, .inr rfl, by decide, by decide, hq _ H A (Pre.refl A) (Keep.refl H) hs (.p ?_)⟩)))
              have : repD 1 xs = xs := by unfold repD; simp
              rw [this]
              exact .tup s r
            · have hk : k ≤ 0 := by
                by_cases h4 : 2 ≤ k
                · exact absurd ⟨h4, h3⟩ h2
                · omega
              refine .inr (.inr (.inr (.inl ⟨l, k, vs, rfl, rfl, s, e0, hc.1, hk, fun z hz => hq _ _ A (Pre.refl A) (Keep.new hz) (hs.new hz) (.p ?_)⟩)))
              have : repD k xs = [] := by unfold repD; rw [show k.toNat = 0 by omega]; rfl
              rw [this]
              exact .tup (SqT.of upd_same) .nil
    · cases h
  · cases h
theorem pv_mulPK (K : PySem.W.Frag) (ha : PV X a ta fa) (hb : PV X b tb fb) (hK : X.K = K := by rfl) : PV X (.BinOp a .Mult b pos) (tOp (rMulT K) ta tb) (binF mulPT fa fb) := by subst hK; exact pv_op op_mulT mulP_ok ha hb
end
end Pv
set_option maxHeartbeats 4000000
/-! Pv21: sorted(dict), a dict of one written pair. -/
namespace Pv
open PySem PySem.Spec PyProof.Rows L2
theorem rel_key {P : Program} {w : World} {k : Key} {u : Value} (h : (mixKind P w).is k u = true) : RelV (kV k) u := by
  rcases keyIs_shape (k := k) (v := u) h with ⟨i, t, rfl, rfl⟩ | ⟨x, t, rfl, rfl⟩
  · exact ⟨t, rfl⟩
  · exact ⟨t, rfl⟩
theorem vals_keys {P : Program} {w : World} : ∀ {kv : List (Key × V)} {vs : List (Key × Value)} {us : List Value}, Paired (fun (p : Key × V) (q : Key × Value) => p.1 = q.1 ∧ RelV p.2 q.2) kv vs → us.length = vs.length → (∀ (i : Nat) (u : Value), us[i]? = some u → ∃ k x, vs[i]? = some (k, x) ∧ (mixKind P w).is k u = true) → Vals (kv.map fun p => kV p.1) us
  | [], _, us, .nil, hl, _ => by
    have : us = [] := List.eq_nil_of_length_eq_zero hl
    subst this; exact .nil
  | p :: kv, q :: vs, [], .cons _ _, hl, _ => by simp at hl
  | p :: kv, q :: vs, u :: us, .cons h t, hl, hu => by
    obtain ⟨k, x, e, hk⟩ := hu 0 u rfl
    have e : q = (k, x) := by simpa using e
    subst e
    have hp : p.1 = k := h.1
    refine .cons ?_ (vals_keys (P := P) (w := w) t (by simpa using hl) fun i v hv => hu (i + 1) v (by simpa using hv))
    show RelV (kV p.1) u
    rw [hp]; exact rel_key hk
section
variable {X : Cx} {a b e kx vx : Expr} {te tk tv : TE} {fe fk fv : EF} {pos p : Pos}
def keysL (kvs : KD) : List D := kvs.map fun q => dK q.1
def rSortedK (K : PySem.W.Frag) : List V → Hp → VK → Prop := fun xs H Q => ∃ (d : Addr) (kv : List (Key × V)) (kvs : KD) (es : List D), xs = [.ref d] ∧ Rd H d (.dK kv) ∧ RKV K H kv kvs ∧ sortD (keysL kvs) = some es ∧
  ∀ q zs, H q = none → Rps K (upd H q (.lst zs)) zs es → Q (.ref q) (upd H q (.lst zs))
theorem rps_keys {K : PySem.W.Frag} {H : Hp} : ∀ {kv : List (Key × V)} {kvs : KD}, RKV K H kv kvs → Rps K H (kv.map fun p => kV p.1) (keysL kvs)
  | [], _, .nil => .nil
  | p :: kv, q :: kvs, .cons h t => by
    refine .cons ?_ (rps_keys t)
    have : p.1 = q.1 := h.1
    show Rp K H (kV p.1) (dK q.1)
    rw [this]; exact rp_key _
theorem cr_sortedK2 (hc : X.calm = true) : CallR X (.builtin "sorted") (rSortedK X.K) := by
  intro pins s σ H xs us Q I r h
  obtain ⟨d, kv, kvs, es, rfl, rd, rk, hsd, q⟩ := h
  obtain ⟨u, rfl, ru⟩ := vals1 r
  cases ru
  obtain ⟨hz, hs0, vs, rv, hdo⟩ := dk_rd I.hok rd
  obtain ⟨ep, hat⟩ := hdo.dictAt
  have lz : kv.length = vs.length := Paired.length rv
  refine sorted_by I fun W E hW => ?_
  refine PySem.W.kdu_collect (PySem.W.kdl_dict (knd := mixKind X.prog X.w) (d := d) (kvs := vs) (ep := ep) hs0) (I.ok.hd hc) hat (by omega) fun h' tk acc hk hacc => ?_
  refine hW _ _ ⟨H, kv.map (fun p => kV p.1), I.kept (t' := tk) hk, ?_, by rw [List.length_map]; omega, _, es, rps_keys rk, hsd, q⟩
  exact vals_keys (P := X.prog) (w := X.w) rv (by rw [Array.length_toList]; exact hacc.1) fun i v hv => hacc.2 i v (by rw [← Array.getElem?_toList]; exact hv)
theorem cr_sortedKK (K : PySem.W.Frag) (hc : X.calm = true) (hK : X.K = K := by rfl) : CallR X (.builtin "sorted") (rSortedK K) := by subst hK; exact cr_sortedK2 hc
def sortedKT : DF := fun ts S => match ts with
  | [t] => ((dictOf S t).bind fun kvs => sortD (keysL kvs)).map fun es => (.loc S.length, S ++ [.lst es])
  | _ => none
theorem sortedK_ok {K : PySem.W.Frag} : CallOk K (rSortedK K) sortedKT := by
  intro H A S vs ts v S' hs rs h Q hq
  unfold sortedKT at h
  split at h
  · obtain ⟨x, rfl, r⟩ := rs.one
    obtain ⟨es, e, h⟩ := Option.map_eq_some_iff.mp h
    obtain ⟨kvs, e1, e2⟩ := Option.bind_eq_some_iff.mp e
    cases h
    obtain ⟨d, kv, rfl, rd, rk⟩ := dictOf_ok hs r e1
    exact ⟨d, kv, kvs, es, rfl, rd, rk, e2, fun z zs hz rz => hq _ _ _ (Pre.app A [z]) (Keep.new hz) (hs.push hz ⟨zs, upd_same, rz⟩) hs.numL⟩
  · cases h
/-! ### {k: v} -/
def disp1F (fk fv : EF) : EF := fun env S => (fk env (S ++ [.dic []])).bind fun x => (fv env x.2).bind fun y => match y.1 with
  | .p d => (keyT x.1).bind fun k => match y.2[S.length]? with
    | some (.dic []) => some (.loc S.length, y.2.set S.length (.dic [(k, d)]))
    | _ => none
  | _ => none
theorem pv_disp1 (hk : PV X kx tk fk) (hv : PV X vx tv fv) : PV X (.Dict [some kx] [vx] pos) (tDisp [(tk, tv)]) (disp1F fk fv) := by
  refine ⟨pe_disp (pps_cons hk.pe hv.pe pps_nil) rfl rfl (by simp) (by simp), ?_⟩
  intro σ H A env S v S' hE hS hf Q hq
  obtain ⟨⟨x, S1⟩, e1, hf⟩ := Option.bind_eq_some_iff.mp hf
  obtain ⟨⟨y, S2⟩, e2, hf⟩ := Option.bind_eq_some_iff.mp hf
  simp only at hf
  split at hf
  · next d =>
    obtain ⟨k, e3, hf⟩ := Option.bind_eq_some_iff.mp hf
    split at hf
    · next q =>
      cases hf
      intro a ha
      have s0 : RS X.K (upd H a (.dK [])) (A ++ [a]) (S ++ [.dic []]) := hS.push ha ⟨[], upd_same, .nil⟩
      refine hk.ok σ _ _ env _ x S1 (hE.keep (Keep.new ha) (Pre.app A [a])) s0 e1 _ fun u H1 A1 p1 k1 s1 r1 => ?_
      refine hv.ok σ H1 A1 env S1 _ S2 (hE.keep ((Keep.new ha).trans k1) ((Pre.app A [a]).trans p1)) s1 e2 _ fun z H2 A2 p2 k2 s2 r2 => ?_
      obtain ⟨dx, ed, hkx⟩ := keyT_ok e3
      subst ed
      cases r1 with
      | p r1 =>
        obtain rfl := keyOf_ok r1 hkx
        cases r2 with
        | p r2 =>
          have ea0 : (A ++ [a])[S.length]? = some a := by rw [← hS.len]; simp
          have ea : A2[S.length]? = some a := p2 _ _ (p1 _ _ ea0)
          obtain ⟨kv, h6, r6⟩ := s2.ob _ _ _ ea q
          cases r6
          refine ⟨h6, [(k, z)], rfl, by simp, ?_⟩
          have kk := Keep.put (o' := .dK (mergeK [] [(k, z)])) h6 free_dK
          have s3 : RS X.K (upd H2 a (.dK (mergeK [] [(k, z)]))) A2 (S2.set S.length (.dic [(k, d)])) := s2.put ea ⟨_, upd_same, .cons ⟨rfl, r2.keep kk⟩ .nil⟩
          exact hq _ _ A2 ((Pre.app A [a]).trans (p1.trans p2)) ((Keep.new ha).trans (k1.trans (k2.trans kk))) s3 (.loc ea)
    · cases hf
  · cases hf
end
end Pv
set_option maxHeartbeats 4000000
/-! Pv22: x in a list or a tuple of numbers, texts, truths. -/
namespace Pv
open PySem PySem.Spec PyProof.Rows L2
def vOf : D → Option V
  | .none => some .non
  | .bool b => some (.bl b)
  | .int i => some (.int i)
  | .str x => some (.str x)
  | _ => none
def vsOf : List D → Option (List V)
  | [] => some []
  | d :: ds => (vOf d).bind fun v => (vsOf ds).map fun vs => v :: vs
theorem vOf_ok {K : PySem.W.Frag} {H : Hp} {v u : V} {d : D} (r : Rp K H v d) (h : vOf d = some u) : v = u ∧ flatV u = true := by
  cases r with
  | non => cases h; exact ⟨rfl, rfl⟩
  | bl b => cases h; exact ⟨rfl, rfl⟩
  | int i => cases h; exact ⟨rfl, rfl⟩
  | str x => cases h; exact ⟨rfl, rfl⟩
  | tup s r => cases h
theorem vsOf_ok {K : PySem.W.Frag} {H : Hp} : ∀ {vs us : List V} {ds : List D}, Rps K H vs ds → vsOf ds = some us → vs = us ∧ us.all flatV = true
  | _, _, _, .nil, h => by cases h; exact ⟨rfl, rfl⟩
  | _, _, _, .cons r t, h => by
    obtain ⟨v, e, h⟩ := Option.bind_eq_some_iff.mp h
    obtain ⟨vs, e2, h⟩ := Option.map_eq_some_iff.mp h
    subst h
    obtain ⟨rfl, f1⟩ := vOf_ok r e
    obtain ⟨rfl, f2⟩ := vsOf_ok t e2
    exact ⟨rfl, by simp [f1]; simpa using f2⟩
def inT (neg : Bool) : Op2 := fun x y S => match x with
  | .p d => (vOf d).bind fun v => ((seqOf S y).bind vsOf).map fun vs => (.p (.bool (if neg then !inV v vs else inV v vs)), S)
  | _ => none
theorem in_ok {K : PySem.W.Frag} (neg : Bool) : OpOk K (rIn K neg) (inT neg) := by
  intro H A S x y a b v S' hs rx ry h Q hq
  unfold inT at h
  split at h
  · next d =>
    obtain ⟨u, e1, h⟩ := Option.bind_eq_some_iff.mp h
    obtain ⟨vs, e2, h⟩ := Option.map_eq_some_iff.mp h
    obtain ⟨ds, e3, e4⟩ := Option.bind_eq_some_iff.mp e2
    cases h
    cases rx with
    | p rx =>
      obtain ⟨rfl, f1⟩ := vOf_ok rx e1
      obtain ⟨l, ws, rfl, hl, rw'⟩ := seqOf_ok hs ry e3
      obtain ⟨rfl, f2⟩ := vsOf_ok rw' e4
      exact ⟨l, ws, rfl, hl, f1, f2, hq _ H A (Pre.refl A) (Keep.refl H) hs (.p (.bl _))⟩
  · cases h
theorem op_inK {X : Cx} (K : PySem.W.Frag) (hK : X.K = K := by rfl) : OpR X (compareOp .In) (rIn K false) := by subst hK; exact op_in_seq
theorem op_notinK {X : Cx} (K : PySem.W.Frag) (hK : X.K = K := by rfl) : OpR X (compareOp .NotIn) (rIn K true) := by subst hK; exact op_notIn_seq
/-! ### a, b, c = x, y, z with plain names -/
section
variable {X : Cx} {a b c : Expr} {tA : TA} {fA : AF} {pos : Pos}
def parS3 (i j l : Nat) (fA : AF) : SF := fun _ env S => (fA env S).bind fun x => match x.1 with
  | [a, b, c] => (gcTs S.length x.2.length [a, b, c] []).bind fun y => match y.1 with
    | [a', b', c'] => some (.nx, ((env.set i (some a')).set j (some b')).set l (some c'), gcOb S.length x.2 y.2)
    | _ => none
  | _ => none
theorem Rts.three {K : PySem.W.Frag} {H : Hp} {A : List Addr} {vs : List V} {t u w : T} (r : Rts K H A vs [t, u, w]) : ∃ v1 v2 v3, vs = [v1, v2, v3] ∧ Rt K H A v1 t ∧ Rt K H A v2 u ∧ Rt K H A v3 w := by
  cases r with
  | cons a r => cases r with
    | cons b r => cases r with
      | cons c r => cases r; exact ⟨_, _, _, rfl, a, b, c⟩
theorem pvs_par3 {i j l : Nat} {x y z : Str} {px py pz pt : Pos} {kt k2 pt2} (hc : X.calm = true) (hN : X.N.Nodup) (hij : i ≠ j) (hil : i ≠ l) (hjl : j ≠ l)
    (hx : X.env.scope.names.lookup x = some .local) (hy : X.env.scope.names.lookup y = some .local) (hz : X.env.scope.names.lookup z = some .local) (ha : PVA X [a, b, c] tA fA)
    (hw : swappedStores [.Tuple [.Name x px, .Name y py, .Name z pz] kt pt] (.Tuple [a, b, c] k2 pt2) X.env = pure (some [x, y, z])) (hi : X.N[i]? = some x := by rfl) (hj : X.N[j]? = some y := by rfl) (hl : X.N[l]? = some z := by rfl)
    (hs : swapsWithSole [.Tuple [.Name x px, .Name y py, .Name z pz] kt pt] (.Tuple [a, b, c] k2 pt2) pos.line X.env = pure false := by rfl) :
    PVS X (.Assign [.Tuple [.Name x px, .Name y py, .Name z pz] kt pt] (.Tuple [a, b, c] k2 pt2) pos) (tPar3 i j l tA) (parS3 i j l fA) := by
  refine ⟨ps_par3 hc hN hi hj hl hij hil hjl hx hy hz ha.pa hw hs, ?_⟩
  intro n σ H A env S o env' S' hn hE hS hf D hD
  obtain ⟨⟨x, S1⟩, e1, hf⟩ := Option.bind_eq_some_iff.mp hf
  simp only at hf
  split at hf
  · next u v w =>
    obtain ⟨⟨y, us⟩, e2, hf⟩ := Option.bind_eq_some_iff.mp hf
    simp only at hf
    split at hf
    · next u' v' w' =>
      cases hf
      refine ha.ok σ H A env S _ S1 hE hS e1 _ fun vs H1 A1 p1 k1 r1 q1 => ?_
      have l1 : S.length ≤ S1.length := by have := p1.len; rw [hS.len, r1.len] at this; exact this
      obtain ⟨g, _, q⟩ := gcTs_ok r1 l1 (⟨by simp, fun _ h => by simp at h⟩ : GcU S.length S1.length []) q1 e2
      have q2 := q []
      rw [List.append_nil] at q2
      obtain ⟨w1, w2, w3, rfl, qa, qb, qc⟩ := Rts.three q2
      have sm := gcA_same (A := A1) (n := S.length) (by rw [r1.len]; exact l1) us
      have pA : Pre A (gcA S.length A1 us) := fun i a e => sm i a (by rw [← hS.len]; exact (List.getElem?_eq_some_iff.mp e).1) (p1 i a e)
      exact ⟨w1, w2, w3, rfl, hD H1 _ (pA.sameTo n) k1 (gcRS r1 l1 g) _ ((((hE.keep k1 pA).set qa i).set qb j).set qc l)⟩
    · cases hf
  · cases hf
end
end Pv
set_option maxHeartbeats 4000000
/-! Pv23: runs by what holds behind them: loops, whiles, comprehensions. -/
namespace Pv
open PySem PySem.Spec PyProof.Rows L2
section
variable {fa fe : EF} {t ft : TF} {env env' : Env} {S S' S1 : Sto} {v w : T} {n i j m M : Nat} {d : D} {s1 s2 sb : SF} {Q : Out → Env → Sto → Prop} {gf : GF} {itf : IF} {gd : Gd} {xs : List D}
theorem rn_mono {x : Option (Out × Env × Sto)} {P : Out → Env → Sto → Prop} (h : Rn x P) (k : ∀ o e s, P o e s → Q o e s) : Rn x Q := by
  obtain ⟨o, e, s, h, p⟩ := h
  exact ⟨o, e, s, h, k _ _ _ p⟩
theorem rn_seq2 (h : Rn (s1 n env S) fun o e s => match o with
  | .nx => Rn (s2 n e s) Q
  | o => Q o e s) : Rn (seqS s1 s2 n env S) Q := by
  obtain ⟨o, e, s, h, p⟩ := h
  cases o with
  | nx => exact rn_seq h p
  | bk => exact ⟨.bk, e, s, by rw [s_seq, h]; rfl, p⟩
  | ct => exact ⟨.ct, e, s, by rw [s_seq, h]; rfl, p⟩
  | rt r => exact ⟨.rt r, e, s, seq_rt h, p⟩
theorem rn_if {b : Bool} (h : t env S = some (b, S')) (h1 : b = true → Rn (s1 n env (S'.take S.length)) Q) (h0 : b = false → Rn (s2 n env (S'.take S.length)) Q) : Rn (ifS t s1 s2 n env S) Q := by
  cases b with
  | true => exact rn_if1 h (h1 rfl)
  | false => exact rn_if0 h (h0 rfl)
/-- a loop by its invariant; it may hand back on its way -/
theorem rn_for {S1 : Sto} (hi : itf env S = some (xs, gd, S1)) (R : Nat → Env → Sto → Prop) (hG : ∀ i e s, R i e s → GdOk gd s) (h0 : R 0 env S1)
    (step : ∀ i x e s, xs[i]? = some x → R i e s → ∃ e1 s1, gf (.p x) e s = some (e1, s1) ∧ Rn (sb (gdTop n gd) e1 s1) fun o e2 s2 => match o with
      | .rt r => Q (.rt r) e2 s2
      | .bk => Q .nx (forget S.length (forget S1.length e2)) ((s2.take S1.length).take S.length)
      | _ => R (i + 1) (forget S1.length e2) (s2.take S1.length))
    (hend : ∀ e s, R xs.length e s → Q .nx (forget S.length e) (s.take S.length)) : Rn (forS itf gf sb n env S) Q := by
  have key : ∀ (ys : List D) (i : Nat) (e : Env) (s : Sto), (∀ j y, ys[j]? = some y → xs[i + j]? = some y) → i + ys.length = xs.length → R i e s →
      ∃ o e' s', loopF gf sb (gdTop n gd) S1.length gd ys e s = some (o, e', s') ∧ (match o with
        | .rt r => Q (.rt r) e' s'
        | _ => Q .nx (forget S.length e') (s'.take S.length) ∧ o = .nx) := by
    intro ys
    induction ys with
    | nil =>
      intro i e s _ hl r
      have : i = xs.length := by simpa using hl
      subst this
      exact ⟨.nx, e, s, by simp only [loopF]; rw [if_pos (hG _ _ _ r)], hend _ _ r, rfl⟩
    | cons y ys ih =>
      intro i e s hy hl r
      obtain ⟨e1, s1', g1, o, e2, s2', g2, q⟩ := step i y e s (hy 0 y rfl) r
      have hl' : i + 1 + ys.length = xs.length := by rw [List.length_cons] at hl; omega
      have hy' : ∀ j z, ys[j]? = some z → xs[i + 1 + j]? = some z := fun j z hz => by
        have := hy (j + 1) z (by simpa using hz)
        rwa [show i + (j + 1) = i + 1 + j by omega] at this
      cases o with
      | rt v => exact ⟨.rt v, e2, s2', by simp only [loopF]; rw [if_pos (hG _ _ _ r), g1, Option.bind_some, g2, Option.bind_some], q⟩
      | bk => exact ⟨.nx, _, _, by simp only [loopF]; rw [if_pos (hG _ _ _ r), g1, Option.bind_some, g2, Option.bind_some], q, rfl⟩
      | nx =>
        obtain ⟨o', e', s', h', q'⟩ := ih (i + 1) _ _ hy' hl' q
        exact ⟨o', e', s', by simp only [loopF]; rw [if_pos (hG _ _ _ r), g1, Option.bind_some, g2, Option.bind_some]; exact h', q'⟩
      | ct =>
        obtain ⟨o', e', s', h', q'⟩ := ih (i + 1) _ _ hy' hl' q
        exact ⟨o', e', s', by simp only [loopF]; rw [if_pos (hG _ _ _ r), g1, Option.bind_some, g2, Option.bind_some]; exact h', q'⟩
  obtain ⟨o, e', s', h, q⟩ := key xs 0 env S1 (fun j y h => by simpa using h) (by simp) h0
  cases o with
  | rt r => exact ⟨.rt r, e', s', s_for_runR hi rfl h, q⟩
  | nx => exact ⟨.nx, _, _, s_for_run hi rfl h, q.1⟩
  | bk => cases q.2
  | ct => cases q.2
theorem rn_forT {α : Type} {ys : List α} {emb : α → D} {S1 : Sto} (hi : itf env S = some (ys.map emb, gd, S1)) (R : Nat → Env → Sto → Prop) (hG : ∀ i e s, R i e s → GdOk gd s) (h0 : R 0 env S1)
    (step : ∀ i y e s, ys[i]? = some y → R i e s → ∃ e1 s1, gf (.p (emb y)) e s = some (e1, s1) ∧ Rn (sb (gdTop n gd) e1 s1) fun o e2 s2 => match o with
      | .rt r => Q (.rt r) e2 s2
      | .bk => Q .nx (forget S.length (forget S1.length e2)) ((s2.take S1.length).take S.length)
      | _ => R (i + 1) (forget S1.length e2) (s2.take S1.length))
    (hend : ∀ e s, R ys.length e s → Q .nx (forget S.length e) (s.take S.length)) : Rn (forS itf gf sb n env S) Q := by
  refine rn_for hi R hG h0 (fun i x e s hx r => ?_) fun e s r => hend e s (by simpa using r)
  rw [List.getElem?_map] at hx
  obtain ⟨y, hy, rfl⟩ := Option.map_eq_some_iff.mp hx
  exact step i y e s hy r
/-- a while by a number that falls -/
theorem rn_while {N : Nat} (R : Nat → Env → Sto → Prop) (h0 : ∃ k, k < N ∧ R k env S)
    (step : ∀ k e s, R k e s → (∃ S2, t e s = some (false, S2) ∧ Q .nx e (S2.take S.length)) ∨ ∃ S2, t e s = some (true, S2) ∧ Rn (sb n e (S2.take s.length)) fun o e2 s2 => match o with
      | .rt r => Q (.rt r) e2 s2
      | .bk => Q .nx (forget S.length e2) (s2.take S.length)
      | _ => ∃ k', k' < k ∧ R k' (forget S.length e2) (s2.take S.length)) : Rn (whileS N t sb n env S) Q := by
  have key : ∀ (N k : Nat) (e : Env) (s : Sto), k < N → R k e s → Rn (whileF t sb n S.length N e s) Q := by
    intro N
    induction N with
    | zero => intro k e s h; exact absurd h (Nat.not_lt_zero _)
    | succ N ih =>
      intro k e s hk r
      rcases step k e s r with ⟨S2, g, q⟩ | ⟨S2, g, o, e2, s2', g2, q⟩
      · exact ⟨.nx, e, _, by simp only [whileF]; rw [g]; rfl, q⟩
      · cases o with
        | rt v => exact ⟨.rt v, e2, s2', by simp only [whileF]; rw [g, Option.bind_some, if_pos rfl, g2, Option.bind_some], q⟩
        | bk => exact ⟨.nx, _, _, by simp only [whileF]; rw [g, Option.bind_some, if_pos rfl, g2, Option.bind_some], q⟩
        | nx =>
          obtain ⟨k', h1, h2⟩ := q
          obtain ⟨o', e', s', h', q'⟩ := ih k' _ _ (by omega) h2
          exact ⟨o', e', s', by simp only [whileF]; rw [g, Option.bind_some, if_pos rfl, g2, Option.bind_some]; exact h', q'⟩
        | ct =>
          obtain ⟨k', h1, h2⟩ := q
          obtain ⟨o', e', s', h', q'⟩ := ih k' _ _ (by omega) h2
          exact ⟨o', e', s', by simp only [whileF]; rw [g, Option.bind_some, if_pos rfl, g2, Option.bind_some]; exact h', q'⟩
  obtain ⟨k, hk, r⟩ := h0
  exact key N k env S hk r
end
/-! slots kept -/
@[simp] theorem keep0 (M : Nat) : keepSlot M none = none := Eq.trans rfl rfl
@[simp] theorem keepD (M : Nat) (d : D) : keepSlot M (some (.p d)) = some (.p d) := Eq.trans rfl rfl
@[simp] theorem keepL {M k : Nat} (h : k < M) : keepSlot M (some (.loc k)) = some (.loc k) := by simp [keepSlot, below, h]
@[simp] theorem keepF (M : Nat) (xs : List D) : keepSlot M (some (.ft xs)) = some (.ft xs) := Eq.trans rfl rfl
@[simp] theorem keepR (M : Nat) (xs : List D) : keepSlot M (some (.ro xs)) = some (.ro xs) := Eq.trans rfl rfl
@[simp] theorem keepP (M : Nat) (o : Option D) : keepSlot M (o.map T.p) = o.map T.p := by cases o <;> rfl
/-! comprehensions over known rows -/
theorem unsnoc_tl {m : Nat} {S T : Sto} {xs : List D} (h : S.length = m) : unsnoc m (S ++ .lst xs :: T) = some (S, xs) := by
  subst h
  simp [unsnoc]
section
variable {gf : GF} {ft : TF} {fe : EF} {env : Pv.Env} {S S' : Sto} {m : Nat} {gd : Gd} {itf : IF} {vs : List Nat}
theorem lc_typ {α : Type} (emb : α → D) (p : α → Bool) (f : α → D) (hm : S.length = m) (hgd : GdOk gd S) : ∀ (xs : List α) (acc : List D), acc.length + xs.length ≤ 100000 →
    (∀ a ∈ xs, ∀ acc, ∃ env1 T1 T2, gf (.p (emb a)) env (S ++ [.lst acc]) = some (env1, S ++ [.lst acc]) ∧ ft env1 (S ++ [.lst acc]) = some (p a, S ++ .lst acc :: T1) ∧ (p a = true → fe env1 (S ++ .lst acc :: T1) = some (.p (f a), S ++ .lst acc :: T2))) →
    lcGo gf ft fe env m gd (xs.map emb) acc S = some (acc ++ (xs.filter p).map f, S)
  | [], acc, _, _ => by simp only [List.map_nil, lcGo]; rw [if_pos hgd]; simp
  | x :: xs, acc, hl, h => by
    obtain ⟨env1, T1, T2, e1, e2, e3⟩ := h x List.mem_cons_self acc
    have ih := fun acc' hl' => lc_typ emb p f hm hgd xs acc' hl' fun y hy => h y (List.mem_cons_of_mem _ hy)
    simp only [List.length_cons] at hl
    have hsz : acc.length < sizeLine := by rw [sizeLine_eq]; omega
    simp only [List.map_cons, lcGo]
    rw [if_pos hgd, e1, Option.bind_some, e2, Option.bind_some]
    cases hp : p x with
    | true =>
      simp only [if_true]
      rw [e3 hp, Option.bind_some]
      simp only
      rw [unsnoc_tl hm, Option.bind_some]
      simp only
      rw [if_pos hsz, ih _ (by rw [List.length_append, List.length_singleton]; omega), List.filter_cons, hp, if_pos rfl, List.map_cons, List.append_assoc]
      rfl
    | false =>
      simp only [Bool.false_eq_true, if_false]
      rw [unsnoc_tl hm, Option.bind_some]
      simp only
      rw [ih _ (by omega), List.filter_cons, hp, if_neg Bool.false_ne_true]
/-- a comprehension that changes nothing -/
theorem lcF_typ {α : Type} (emb : α → D) (p : α → Bool) (f : α → D) (xs : List α) (hi : itf env S = some (xs.map emb, gd, S')) (hgd : GdOk gd S') (hl : xs.length ≤ 100000)
    (h : ∀ a ∈ xs, ∀ acc, ∃ env1 T1 T2, gf (.p (emb a)) (wipeE env vs) (S' ++ [.lst acc]) = some (env1, S' ++ [.lst acc]) ∧ ft env1 (S' ++ [.lst acc]) = some (p a, S' ++ .lst acc :: T1) ∧ (p a = true → fe env1 (S' ++ .lst acc :: T1) = some (.p (f a), S' ++ .lst acc :: T2))) :
    lcF itf gf ft fe vs env S = some (.loc S'.length, S' ++ [.lst ((xs.filter p).map f)]) := by
  rw [e_lc, hi, Option.bind_some, e_lc1 (lc_typ emb p f rfl hgd xs [] (by simpa using hl) h), List.nil_append]
/-- .. without an if -/
theorem lcF_all {α : Type} (emb : α → D) (f : α → D) (xs : List α) (hi : itf env S = some (xs.map emb, gd, S')) (hgd : GdOk gd S') (hl : xs.length ≤ 100000)
    (h : ∀ a ∈ xs, ∀ acc, ∃ env1 T2, gf (.p (emb a)) (wipeE env vs) (S' ++ [.lst acc]) = some (env1, S' ++ [.lst acc]) ∧ fe env1 (S' ++ [.lst acc]) = some (.p (f a), S' ++ .lst acc :: T2)) :
    lcF itf gf yesT fe vs env S = some (.loc S'.length, S' ++ [.lst (xs.map f)]) := by
  have := lcF_typ (itf := itf) (gf := gf) (ft := yesT) (fe := fe) (env := env) (vs := vs) emb (fun _ => true) f xs hi hgd hl fun a ha acc => by
    obtain ⟨e1, T2, g1, g2⟩ := h a ha acc
    exact ⟨e1, [], T2, g1, e_yes, fun _ => g2⟩
  rwa [List.filter_eq_self.mpr (fun _ _ => rfl)] at this
theorem lc_relN {gf : GF} {ft : TF} {fe : EF} {env : Pv.Env} {m : Nat} {gd : Gd} (R : List D → Sto → Prop) (hR : ∀ a S, R a S → S.length = m ∧ GdOk gd S) (xs acc : List D) (S : Sto) (hl : acc.length + xs.length ≤ 100000) (r : R acc S)
    (h : ∀ x acc S, x ∈ xs → acc.length ≤ 100000 → R acc S → ∃ env1 y S', gf (.p x) env (S ++ [.lst acc]) = some (env1, S ++ [.lst acc]) ∧ ft env1 (S ++ [.lst acc]) = some (true, S ++ [.lst acc]) ∧ fe env1 (S ++ [.lst acc]) = some (.p y, S' ++ [.lst acc]) ∧ R (acc ++ [y]) S') :
    ∃ out S', lcGo gf ft fe env m gd xs acc S = some (out, S') ∧ R out S' ∧ out.length = acc.length + xs.length := by
  have key : ∀ (ys : List D) (acc : List D) (S : Sto), (∀ y ∈ ys, y ∈ xs) → acc.length + ys.length ≤ 100000 → R acc S → ∃ out S', lcGo gf ft fe env m gd ys acc S = some (out, S') ∧ R out S' ∧ out.length = acc.length + ys.length := by
    intro ys
    induction ys with
    | nil => exact fun acc S _ _ r => ⟨acc, S, by simp only [lcGo]; rw [if_pos (hR _ _ r).2], r, by simp⟩
    | cons x ys ih =>
      intro acc S hy hl r
      simp only [List.length_cons] at hl
      obtain ⟨env1, y, S1, e1, e2, e3, r1⟩ := h x acc S (hy x List.mem_cons_self) (by omega) r
      have hsz : acc.length < sizeLine := by rw [sizeLine_eq]; omega
      obtain ⟨out, S', e4, r4, l4⟩ := ih (acc ++ [y]) S1 (fun z hz => hy z (List.mem_cons_of_mem _ hz)) (by rw [List.length_append, List.length_singleton]; omega) r1
      refine ⟨out, S', ?_, r4, by rw [l4, List.length_append, List.length_singleton, List.length_cons]; omega⟩
      simp only [lcGo]
      rw [if_pos (hR _ _ r).2, e1, Option.bind_some, e2, Option.bind_some]
      simp only [if_true]
      rw [e3, Option.bind_some]
      simp only
      rw [unsnoc_app (hR _ _ r1).1, Option.bind_some]
      simp only
      rw [if_pos hsz, e4]
  exact key xs acc S (fun _ h => h) hl r
end
/-! slices, ranges, repeats, as plain lists -/
theorem cut_to {α : Type} (xs : List α) (m : Nat) (h : m ≤ xs.length) : cutL xs none (some (m : Int)) = xs.take m := by
  unfold cutL
  rw [HT.sIx_none, HT.sIx_nat, List.drop_zero, Nat.sub_zero, Nat.min_eq_left h]
theorem cut_from {α : Type} (xs : List α) (m : Nat) (h : m ≤ xs.length) : cutL xs (some (m : Int)) none = xs.drop m := by
  unfold cutL
  rw [HT.sIx_none, HT.sIx_nat, Nat.min_eq_left h]
  exact List.take_of_length_le (by rw [List.length_drop]; omega)
theorem cut_mid {α : Type} (xs : List α) (a b : Nat) (h : b ≤ xs.length) (hab : a ≤ b) : cutL xs (some (a : Int)) (some (b : Int)) = (xs.drop a).take (b - a) := by
  unfold cutL
  rw [HT.sIx_nat, HT.sIx_nat, Nat.min_eq_left h, Nat.min_eq_left (by omega)]
theorem repD_ints (k : Int) (xs : List Int) : repD k (xs.map PyData.int) = ((List.replicate k.toNat xs).flatten).map PyData.int := by
  unfold repD
  generalize k.toNat = r
  induction r with
  | zero => rfl
  | succ r ih => rw [List.replicate_succ, List.flatten_cons, List.replicate_succ, List.flatten_cons, List.map_append, ih]
def natI (n : Nat) : D := .int (n : Int)
theorem rangeL_nat (k : Nat) : rangeL 0 k = (List.range k).map natI := by
  unfold rangeL natI
  refine List.map_congr_left fun i _ => ?_
  show PyData.int (0 + (i : Int)) = PyData.int (i : Int)
  rw [Int.zero_add]
theorem i_rangeN {fA : AF} {env : Pv.Env} {S S' : Sto} {c : Nat} (h : fA env S = some ([.p (.int (c : Int))], S')) (hc : c ≤ 1000000) : range1I fA env S = some ((List.range c).map natI, [], S') := by
  rw [i_range1 h hc, rangeL_nat]
theorem wipe1 (env : Pv.Env) (i : Nat) : wipeE env [i] = env.set i none := rfl
@[simp] theorem e_mulPT {k : Int} {xs : List D} {S : Sto} (h : -(2 ^ 63) ≤ k ∧ k < 2 ^ 40 ∧ xs.length * k.toNat ≤ 100000) : mulPT (.p (.tuple xs)) (.p (.int k)) S = some (.p (.tuple (repD k xs)), S) := by
  show (if _ then _ else _) = _
  rw [if_pos h]
@[simp] theorem e_sumP {ns : List Int} {S : Sto} : sumPT [.p (.tuple (ns.map PyData.int))] S = some (.p (.int ns.sum), S) := by simp only [sumPT, intsOf_map, Option.map_some]
theorem e_maxP {ns : List Int} {S : Sto} (h : 0 < ns.length) : maxPT [.p (.tuple (ns.map PyData.int))] S = some (.p (.int (maxI ns)), S) := by simp only [maxPT, intsOf_map, Option.bind_some, if_pos h]
theorem e_maxL {ns : List Int} {S : Sto} {i : Nat} (h : S[i]? = some (.lst (ns.map PyData.int))) (hn : ns ≠ []) : mmT maxI [.loc i] S = some (.p (.int (maxI ns)), S) := by simp only [mmT, lstOf, h, Option.bind_some, intsOf_map, if_pos hn]
theorem e_minL {ns : List Int} {S : Sto} {i : Nat} (h : S[i]? = some (.lst (ns.map PyData.int))) (hn : ns ≠ []) : mmT minI [.loc i] S = some (.p (.int (minI ns)), S) := by simp only [mmT, lstOf, h, Option.bind_some, intsOf_map, if_pos hn]
def revPK (x : T × Sto) : Option (T × Sto) := match x.1 with
  | .p (.tuple ds) => some (.p (.tuple ds.reverse), x.2)
  | _ => none
@[simp] theorem e_revP {fe : EF} {env : Pv.Env} {S : Sto} : revPF fe env S = (fe env S).bind revPK := Eq.trans rfl rfl
@[simp] theorem e_revPK {ds : List D} {S : Sto} : revPK (.p (.tuple ds), S) = some (.p (.tuple ds.reverse), S) := Eq.trans rfl rfl
def starK2 (ds : List D) (y : List T × Sto) : List T × Sto := (ds.map T.p ++ y.1, y.2)
def starK (g : AF) (env : Pv.Env) (x : T × Sto) : Option (List T × Sto) := (seqOf x.2 x.1).bind fun ds => (g env x.2).map (starK2 ds)
@[simp] theorem e_star {fe : EF} {g : AF} {env : Pv.Env} {S : Sto} : starF fe g env S = (fe env S).bind (starK g env) := Eq.trans rfl rfl
theorem e_starL {g : AF} {env : Pv.Env} {S : Sto} {i : Nat} {ds : List D} (h : S[i]? = some (.lst ds)) : starK g env (.loc i, S) = (g env S).map (starK2 ds) := by simp only [starK, seqOf, h, Option.bind_some]
@[simp] theorem e_starP {g : AF} {env : Pv.Env} {S : Sto} {ds : List D} : starK g env (.p (.tuple ds), S) = (g env S).map (starK2 ds) := by simp only [starK, seqOf, Option.bind_some]
@[simp] theorem e_star2 {ds : List D} {ts : List T} {S : Sto} : starK2 ds (ts, S) = (ds.map T.p ++ ts, S) := Eq.trans rfl rfl
def enumK (x : List T × Sto) : Option (List D × Gd × Sto) := match x.1 with
  | [a] => (seqG x.2 a).map fun u => (enumD u.1, u.2, x.2)
  | _ => none
@[simp] theorem i_enum {fA : AF} {env : Pv.Env} {S : Sto} : enumI fA env S = (fA env S).bind enumK := Eq.trans rfl rfl
@[simp] theorem i_enumP {ds : List D} {S : Sto} : enumK ([.p (.tuple ds)], S) = some (enumD ds, [], S) := Eq.trans rfl rfl
theorem i_enumL {ds : List D} {S : Sto} {i : Nat} (h : S[i]? = some (.lst ds)) : enumK ([.loc i], S) = some (enumD ds, [(i, .lst ds)], S) := by simp only [enumK, seqG, h, Option.map_some]
@[simp] theorem e_int1 {neg : Bool} {d : D} {y : T} {S : Sto} {v : V} {ds : List D} {vs : List V} (h1 : vOf d = some v) (h2 : seqOf S y = some ds) (h3 : vsOf ds = some vs) : inT neg (.p d) y S = some (.p (.bool (if neg then !inV v vs else inV v vs)), S) := by
  simp only [inT, h1, h2, h3, Option.bind_some, Option.map_some]
/-- a call, run: the callee stays closed (simp by rfl-steps over a callee laid bare makes the kernel unfold it) -/
theorem call_run {n : Nat} {g : DF} {fA : AF} {env : Pv.Env} {S S1 : Sto} {ts : List T} {r : Option (T × Sto)} (h : fA env S = some (ts, S1)) (hn : ts.length = n) (hg : g ts S1 = r) : callF n g fA env S = r := by
  rw [e_call, h, Option.bind_some, e_callK hn]; exact hg
end Pv
set_option maxHeartbeats 4000000
/-! M50: what the functions of k50 do, as functions of values and a store. -/
namespace G50
open PySem PySem.Spec PyProof.Rows L2 Pv
noncomputable def b__law_cells : SF :=
  (retS (lrg1F (argF max2T (consF (conF (.int 1)) (consF (argF min2T (consF (varF 1) (consF (argF lenT (consF (varF 0) nilF)) nilF))) nilF)))))
/-- _law_cells: slots 0=script 1=most -/
noncomputable def m__law_cells : DF := defF 2 b__law_cells
noncomputable def b__law_pot : SF :=
  (seqS (setS 2 (ifF (asT (binF ltI (varF 1) (argF lenT (consF (varF 0) nilF)))) (binF ixT (varF 0) (varF 1)) (binF addT (binF addT (binF modI (argF intT (consF (argF sumT (consF (sliceF (varF 0) noO (someO (conF (.int 1)))) nilF)) nilF)) (conF (.int 1000291))) (binF mulI (conF (.int 7351)) (varF 1))) (conF (.int 4153))))) (seqS (setS 3 (binF mulI (binF modI (argF intT (consF (argF absT (consF (varF 2) nilF)) nilF)) (binF powA (binF powA (conF (.int 10)) (conF (.int 60))) (conF (.int 5)))) (argF intT (consF (binF geI (argF absT (consF (varF 2) nilF)) (binF powA (conF (.int 10)) (conF (.int 18)))) nilF)))) (seqS (setS 4 (binF modI (argF intT (consF (varF 2) nilF)) (conF (.int 2305843009213693951)))) (retS (lstF (consF (varF 3) (consF (binF modI (argF intT (consF (binF addT (binF addT (binF mulI (varF 4) (conF (.int 83383))) (binF mulI (binF mulI (conF (.int 12301)) (varF 1)) (varF 1))) (conF (.int 3571))) nilF)) (conF (.int 2305843009213693921))) (consF (conF (.int 0)) nilF))))))))
/-- _law_pot: slots 0=script 1=place 2=cell 3=own 4=small -/
noncomputable def m__law_pot : DF := defF 5 b__law_pot
noncomputable def b__law_take : SF :=
  (seqS (ifS (asT (binF gtI (binF ixT (varF 0) (conF (.int 0))) (conF (.int 0)))) (seqS (setS 2 (binF modI (argF intT (consF (binF ixT (varF 0) (conF (.int 0))) nilF)) (varF 1))) (seqS (setLS (varF 0) (conF (.int 0)) (binF divI (binF ixT (varF 0) (conF (.int 0))) (varF 1))) (retS (varF 2)))) nextS) (seqS (setLS (varF 0) (conF (.int 2)) (binF addT (binF ixT (varF 0) (conF (.int 2))) (conF (.int 1)))) (seqS (setS 3 (binF ixT (lstF (consF (conF (.int 2147483647)) (consF (conF (.int 2147483629)) (consF (conF (.int 2147483587)) (consF (conF (.int 2147483579)) (consF (conF (.int 2147483563)) nilF)))))) (binF modI (argF intT (consF (binF ixT (varF 0) (conF (.int 2))) nilF)) (conF (.int 5))))) (seqS (setS 4 (binF modI (argF intT (consF (binF powA (argF intT (consF (binF addT (binF addT (binF ixT (varF 0) (conF (.int 1))) (binF mulI (binF mulI (conF (.int 93257)) (binF ixT (varF 0) (conF (.int 2)))) (binF ixT (varF 0) (conF (.int 2))))) (conF (.int 4153))) nilF)) (conF (.int 3))) nilF)) (varF 3))) (seqS (setS 4 (binF modI (argF intT (consF (binF mulI (varF 4) (binF addT (binF modI (argF intT (consF (varF 4) nilF)) (conF (.int 12923))) (binF mulI (conF (.int 439)) (binF ixT (varF 0) (conF (.int 2)))))) nilF)) (conF (.int 2305843009213693907)))) (retS (binF modI (argF intT (consF (binF divI (varF 4) (conF (.int 251))) nilF)) (varF 1))))))))
/-- _law_take: slots 0=pot 1=upto 2=digit 3=prime 4=mixture -/
noncomputable def m__law_take : DF := defF 5 b__law_take
noncomputable def b__law_of : SF :=
  (retS (binF ixT (varF 1) (callF 2 m__law_take (consF (varF 0) (consF (argF lenT (consF (varF 1) nilF)) nilF)))))
/-- _law_of: slots 0=pot 1=some -/
noncomputable def m__law_of : DF := defF 2 b__law_of
noncomputable def b__law_traffic : SF :=
  (seqS (parS 1 2 (consF (callF 2 m__law_of (consF (varF 0) (consF (lstF (consF (conF (.int 3)) (consF (conF (.int 9)) (consF (conF (.int 40)) nilF)))) nilF))) (consF (tupF nilF) nilF))) (seqS (forS (range1I (consF (callF 2 m__law_take (consF (varF 0) (consF (callF 2 m__law_of (consF (varF 0) (consF (lstF (consF (conF (.int 4)) (consF (conF (.int 41)) nilF))) nilF))) nilF))) nilF)) (nameG 3) (setS 2 (binF addT (varF 2) (tupF (consF (binF mulI (argF intT (consF (callF 2 m__law_take (consF (varF 0) (consF (varF 1) nilF))) nilF)) (argF intT (consF (binF gtI (callF 2 m__law_take (consF (varF 0) (consF (conF (.int 3)) nilF))) (conF (.int 0))) nilF))) nilF))))) (retS (varF 2))))
/-- _law_traffic: slots 0=pot 1=size 2=found 3=tick -/
noncomputable def m__law_traffic : DF := defF 4 b__law_traffic
noncomputable def b_is_int : SF :=
  (retS (andF (isiF "int" (varF 0)) (andF (notF (isiF "bool" (varF 0))) (chainF leI leI (varF 1) (varF 0) (varF 2)))))
/-- is_int: slots 0=value 1=low 2=high -/
noncomputable def m_is_int : DF := defF 3 b_is_int
noncomputable def b_is_curve : SF :=
  (seqS (ifS (orT (notT (asT (isiF "tuple" (varF 0)))) (notT (asT (chainF leI leI (conF (.int 1)) (argF lenT (consF (varF 0) nilF)) (conF (.int 8)))))) (retS (conF (.bool false))) nextS) (seqS (forS (tupI (varF 0)) (nameG 1) (seqS (ifS (orT (notT (asT (isiF "tuple" (varF 1)))) (asT (binF (eqT true) (argF lenT (consF (varF 1) nilF)) (conF (.int 2))))) (retS (conF (.bool false))) nextS) (ifS (orT (notT (asT (callF 3 m_is_int (consF (binF ixT (varF 1) (conF (.int 0))) (consF (conF (.int 0)) (consF (conF (.int 400)) nilF)))))) (notT (asT (callF 3 m_is_int (consF (binF ixT (varF 1) (conF (.int 1))) (consF (conF (.int 0)) (consF (conF (.int 100)) nilF))))))) (retS (conF (.bool false))) nextS))) (retS (argF (allT false) (consF (lcF (zipI (consF (varF 0) (consF (sliceF (varF 0) (someO (conF (.int 1))) noO) nilF))) (tupG 2 (consG (nameG 2) (consG (nameG 3) nilG))) yesT (andF (binF ltI (binF ixT (varF 2) (conF (.int 0))) (binF ixT (varF 3) (conF (.int 0)))) (binF gtI (binF ixT (varF 2) (conF (.int 1))) (binF ixT (varF 3) (conF (.int 1))))) [2, 3]) nilF)))))
/-- is_curve: slots 0=value 1=pair 2=one 3=other -/
noncomputable def m_is_curve : DF := defF 4 b_is_curve
noncomputable def b_look_at_curve : SF :=
  (ifS (notT (asT (callF 1 m_is_curve (consF (varF 0) nilF)))) noneS nextS)
/-- look_at_curve: slots 0=curve -/
noncomputable def m_look_at_curve : DF := defF 1 b_look_at_curve
noncomputable def b_is_traffic : SF :=
  (retS (andF (isiF "tuple" (varF 0)) (andF (binF leI (argF lenT (consF (varF 0) nilF)) (conF (.int 500))) (argF (allT false) (consF (lcF (tupI (varF 0)) (nameG 1) yesT (callF 3 m_is_int (consF (varF 1) (consF (conF (.int 0)) (consF (conF (.int 1000)) nilF)))) [1]) nilF)))))
/-- is_traffic: slots 0=value 1=one -/
noncomputable def m_is_traffic : DF := defF 2 b_is_traffic
noncomputable def b_look_at_traffic : SF :=
  (ifS (notT (asT (callF 1 m_is_traffic (consF (varF 0) nilF)))) noneS nextS)
/-- look_at_traffic: slots 0=traffic -/
noncomputable def m_look_at_traffic : DF := defF 1 b_look_at_traffic
noncomputable def b_buckets_of : SF :=
  (retS (lcF (tupI (varF 0)) (tupG 2 (consG (nameG 1) (consG (nameG 2) nilG))) yesT (tupF (consF (binF addT (varF 1) (varF 2)) (consF (varF 2) nilF))) [1, 2]))
/-- buckets_of: slots 0=curve 1=burst 2=rate -/
noncomputable def m_buckets_of : DF := defF 3 b_buckets_of
noncomputable def b_told_let : SF :=
  (seqS (setS 2 (callF 1 m_buckets_of (consF (varF 0) nilF))) (seqS (parS3 3 4 5 (consF (lcF (lstI (varF 2)) (tupG 2 (consG (nameG 7) (consG (nameG 8) nilG))) yesT (varF 7) [7, 8]) (consF (lstF nilF) (consF (conF (.int 0)) nilF)))) (seqS (whileS 2300 (orT (asT (binF ltI (argF lenT (consF (varF 4) nilF)) (argF lenT (consF (varF 1) nilF)))) (asT (binF gtI (varF 5) (conF (.int 0))))) (seqS (augS 5 (iop fun i j => some (.int (i + j))) (ifF (asT (binF ltI (argF lenT (consF (varF 4) nilF)) (argF lenT (consF (varF 1) nilF)))) (binF ixT (varF 1) (argF lenT (consF (varF 4) nilF))) (conF (.int 0)))) (seqS (setS 6 (argF (mmT minI) (consF (lstF (consF (varF 5) (starF (varF 3) nilF))) nilF))) (seqS (exprS (methF appendT (varF 4) (consF (varF 6) nilF))) (seqS (augS 5 subI (varF 6)) (seqS (setS 3 (lcF (zipI (consF (varF 2) (consF (varF 3) nilF))) (tupG 2 (consG (tupG 2 (consG (nameG 7) (consG (nameG 8) nilG))) (consG (nameG 9) nilG))) yesT (argF min2T (consF (varF 7) (consF (binF addT (binF subI (varF 9) (varF 6)) (varF 8)) nilF))) [7, 8, 9])) (seqS (ifS (andT (asT (binF gtI (varF 5) (conF (.int 0)))) (asT (argF (allT true) (consF (lcF (zipI (consF (varF 2) (consF (varF 3) nilF))) (tupG 2 (consG (tupG 2 (consG (nameG 7) (consG (nameG 8) nilG))) (consG (nameG 9) nilG))) yesT (andF (binF (eqT false) (varF 8) (conF (.int 0))) (binF (eqT false) (varF 9) (conF (.int 0)))) [7, 8, 9]) nilF)))) (retS (conF .none)) nextS) (ifS (asT (binF gtI (argF lenT (consF (varF 4) nilF)) (conF (.int 2000)))) noneS nextS)))))))) (retS (argF tupleT (consF (varF 4) nilF))))))
/-- told_let: slots 0=curve 1=traffic 2=buckets 3=full 4=found 5=waits 6=goes 7=most 8=rate 9=left -/
noncomputable def m_told_let : DF := defF 10 b_told_let
noncomputable def b_shaped : SF :=
  (seqS (exprS (callF 1 m_look_at_curve (consF (varF 0) nilF))) (seqS (exprS (callF 1 m_look_at_traffic (consF (varF 1) nilF))) (retS (callF 2 m_told_let (consF (varF 0) (consF (varF 1) nilF))))))
/-- shaped: slots 0=curve 1=traffic -/
noncomputable def m_shaped : DF := defF 2 b_shaped
noncomputable def b_told_at : SF :=
  (retS (ifF (asT (binF gtI (varF 1) (conF (.int 0)))) (argF (mmT minI) (consF (lcF (tupI (varF 0)) (tupG 2 (consG (nameG 2) (consG (nameG 3) nilG))) yesT (binF addT (varF 2) (binF mulI (varF 3) (varF 1))) [2, 3]) nilF)) (conF (.int 0))))
/-- told_at: slots 0=curve 1=ticks 2=burst 3=rate -/
noncomputable def m_told_at : DF := defF 4 b_told_at
noncomputable def b_too_much : SF :=
  (seqS (forS (range1I (consF (argF lenT (consF (varF 1) nilF)) nilF)) (nameG 2) (seqS (setS 3 (conF (.int 0))) (forS (range2I (consF (conF (.int 1)) (consF (binF addT (binF subI (argF lenT (consF (varF 1) nilF)) (varF 2)) (conF (.int 1))) nilF))) (nameG 4) (seqS (augS 3 (iop fun i j => some (.int (i + j))) (binF ixT (varF 1) (binF subI (binF addT (varF 2) (varF 4)) (conF (.int 1))))) (ifS (asT (binF gtI (varF 3) (callF 2 m_told_at (consF (varF 0) (consF (varF 4) nilF))))) (retS (tupF (consF (varF 2) (consF (varF 4) nilF)))) nextS))))) (retS (conF .none)))
/-- too_much: slots 0=curve 1=traffic 2=start 3=total 4=many -/
noncomputable def m_too_much : DF := defF 5 b_too_much
noncomputable def b_fits : SF :=
  (seqS (exprS (callF 1 m_look_at_curve (consF (varF 0) nilF))) (seqS (exprS (callF 1 m_look_at_traffic (consF (varF 1) nilF))) (seqS (setS 2 (callF 2 m_too_much (consF (varF 0) (consF (varF 1) nilF)))) (retS (ifF (asT (binF (isN false) (varF 2) (conF .none))) (tupF (consF (conF (.str "fits")) nilF)) (tupF (consF (conF (.str "more")) (starF (varF 2) nilF))))))))
/-- fits: slots 0=curve 1=traffic 2=told -/
noncomputable def m_fits : DF := defF 3 b_fits
noncomputable def b_least_burst : SF :=
  (seqS (exprS (callF 1 m_look_at_traffic (consF (varF 0) nilF))) (seqS (ifS (notT (asT (callF 3 m_is_int (consF (varF 1) (consF (conF (.int 0)) (consF (conF (.int 100)) nilF)))))) noneS nextS) (seqS (asgS (tupF (consF (conF (.int 0)) (consF (conF (.int 0)) nilF))) (tupG 2 (consG (nameG 2) (consG (nameG 3) nilG)))) (seqS (forS (tupI (varF 0)) (nameG 4) (seqS (setS 3 (binF subI (binF addT (argF max2T (consF (conF (.int 0)) (consF (varF 3) nilF))) (varF 4)) (varF 1))) (setS 2 (argF max2T (consF (varF 2) (consF (varF 3) nilF)))))) (retS (varF 2))))))
/-- least_burst: slots 0=traffic 1=rate 2=best 3=here 4=size -/
noncomputable def m_least_burst : DF := defF 5 b_least_burst
noncomputable def b__law_is_shaped_right : SF :=
  (seqS (setS 3 (argF intT (consF (callF 2 m__law_take (consF (varF 0) (consF (conF (.int 20)) nilF))) nilF))) (seqS (setS 4 (callF 2 m_shaped (consF (tupF (consF (tupF (consF (varF 3) (consF (varF 2) nilF))) nilF)) (consF (varF 1) nilF)))) (seqS (ifS (asT (binF (eqT false) (varF 2) (conF (.int 0)))) (seqS (setS 5 (binF leI (argF sumPT (consF (varF 1) nilF)) (varF 3))) (retS (ifF (asT (varF 5)) (binF (eqT false) (varF 4) (varF 1)) (binF (isN false) (varF 4) (conF .none))))) nextS) (seqS (asgS (tupF (consF (binF addT (varF 3) (varF 2)) (consF (conF (.int 0)) (consF (tupF nilF) (consF (conF (.int 0)) nilF))))) (tupG 4 (consG (nameG 6) (consG (nameG 7) (consG (nameG 8) (consG (nameG 9) nilG)))))) (seqS (forS (range1I (consF (conF (.int 2200)) nilF)) (nameG 10) (ifS (orT (asT (binF ltI (varF 9) (argF lenT (consF (varF 1) nilF)))) (asT (binF gtI (varF 7) (conF (.int 0))))) (seqS (setS 7 (binF addT (varF 7) (ifF (asT (binF ltI (varF 9) (argF lenT (consF (varF 1) nilF)))) (binF ixT (varF 1) (varF 9)) (conF (.int 0))))) (seqS (setS 11 (argF min2T (consF (varF 7) (consF (varF 6) nilF)))) (asgS (tupF (consF (binF subI (varF 7) (varF 11)) (consF (argF min2T (consF (binF addT (varF 3) (varF 2)) (consF (binF addT (binF subI (varF 6) (varF 11)) (varF 2)) nilF))) (consF (binF addT (varF 8) (tupF (consF (varF 11) nilF))) (consF (binF addT (varF 9) (conF (.int 1))) nilF))))) (tupG 4 (consG (nameG 7) (consG (nameG 6) (consG (nameG 8) (consG (nameG 9) nilG)))))))) nextS)) (seqS (ifS (orT (asT (binF (eqT true) (varF 4) (varF 8))) (asT (binF (eqT true) (argF sumPT (consF (varF 4) nilF)) (argF sumPT (consF (varF 1) nilF))))) (retS (conF (.bool false))) nextS) (seqS (ifS (andT (asT (binF leI (argF lenT (consF (varF 4) nilF)) (conF (.int 500)))) (asT (binF leI (argF maxPT (consF (binF addT (varF 4) (tupF (consF (conF (.int 0)) nilF))) nilF)) (conF (.int 1000))))) (retS (andF (binF (eqT false) (callF 2 m_fits (consF (tupF (consF (tupF (consF (varF 3) (consF (varF 2) nilF))) nilF)) (consF (varF 4) nilF))) (tupF (consF (conF (.str "fits")) nilF))) (binF leI (callF 2 m_least_burst (consF (varF 4) (consF (varF 2) nilF))) (varF 3)))) nextS) (retS (conF (.bool true))))))))))
/-- _law_is_shaped_right: slots 0=pot 1=traffic 2=rate 3=burst 4=told 5=whole 6=full 7=waits 8=found 9=tick 10=lap 11=goes -/
noncomputable def m__law_is_shaped_right : DF := defF 12 b__law_is_shaped_right
noncomputable def b__law_windows : SF :=
  (seqS (setS 1 (lstF nilF)) (seqS (forS (range1I (consF (argF lenT (consF (varF 0) nilF)) nilF)) (nameG 2) (seqS (setS 3 (conF (.int 0))) (forS (enumI (consF (sliceF (varF 0) (someO (varF 2)) noO) nilF)) (tupG 2 (consG (nameG 4) (consG (nameG 5) nilG))) (seqS (setS 3 (binF addT (varF 3) (varF 5))) (exprS (methF appendT (varF 1) (consF (tupF (consF (varF 3) (consF (binF addT (varF 4) (conF (.int 1))) nilF))) nilF))))))) (retS (varF 1))))
/-- _law_windows: slots 0=traffic 1=found 2=start 3=total 4=many 5=much -/
noncomputable def m__law_windows : DF := defF 6 b__law_windows
noncomputable def b__law_burst : SF :=
  (retS (argF (mmT maxI) (consF (binF addT (lstF (consF (conF (.int 0)) nilF)) (lcF (lstI (callF 1 m__law_windows (consF (varF 0) nilF))) (tupG 2 (consG (nameG 2) (consG (nameG 3) nilG))) yesT (binF subI (varF 2) (binF mulI (varF 1) (varF 3))) [2, 3])) nilF)))
/-- _law_burst: slots 0=traffic 1=rate 2=much 3=many -/
noncomputable def m__law_burst : DF := defF 4 b__law_burst
noncomputable def b__law_is_bool : SF :=
  (retS (andF (isiF "bool" (varF 0)) (binF (eqT false) (varF 0) (varF 1))))
/-- _law_is_bool: slots 0=told 1=due -/
noncomputable def m__law_is_bool : DF := defF 2 b__law_is_bool
noncomputable def b_is_server : SF :=
  (seqS (ifS (orT (notT (asT (isiF "tuple" (varF 0)))) (asT (binF (eqT true) (argF lenT (consF (varF 0) nilF)) (conF (.int 2))))) (retS (conF (.bool false))) nextS) (retS (andF (callF 3 m_is_int (consF (binF ixT (varF 0) (conF (.int 0))) (consF (conF (.int 0)) (consF (conF (.int 100)) nilF)))) (callF 3 m_is_int (consF (binF ixT (varF 0) (conF (.int 1))) (consF (conF (.int 0)) (consF (conF (.int 200)) nilF)))))))
/-- is_server: slots 0=value -/
noncomputable def m_is_server : DF := defF 1 b_is_server
noncomputable def b_look_at_server : SF :=
  (ifS (notT (asT (callF 1 m_is_server (consF (varF 0) nilF)))) noneS nextS)
/-- look_at_server: slots 0=server -/
noncomputable def m_look_at_server : DF := defF 1 b_look_at_server
noncomputable def b_told_served : SF :=
  (retS (binF mulI (binF ixT (varF 0) (conF (.int 0))) (argF max2T (consF (conF (.int 0)) (consF (binF subI (varF 1) (binF ixT (varF 0) (conF (.int 1)))) nilF)))))
/-- told_served: slots 0=server 1=ticks -/
noncomputable def m_told_served : DF := defF 2 b_told_served
noncomputable def b_held : SF :=
  (seqS (exprS (callF 1 m_look_at_server (consF (varF 0) nilF))) (seqS (exprS (callF 1 m_look_at_traffic (consF (varF 1) nilF))) (seqS (setS 2 (conF (.int 0))) (seqS (forS (range1I (consF (argF lenT (consF (varF 1) nilF)) nilF)) (nameG 3) (forS (range1I (consF (binF addT (varF 3) (conF (.int 1))) nilF)) (nameG 4) (setS 2 (argF max2T (consF (varF 2) (consF (binF subI (argF sumPT (consF (sliceF (varF 1) (someO (varF 4)) (someO (binF addT (varF 3) (conF (.int 1))))) nilF)) (callF 2 m_told_served (consF (varF 0) (consF (binF subI (varF 3) (varF 4)) nilF)))) nilF)))))) (retS (varF 2))))))
/-- held: slots 0=server 1=traffic 2=found 3=last 4=start -/
noncomputable def m_held : DF := defF 5 b_held
noncomputable def b_shows_fits : SF :=
  (seqS (exprS (callF 1 m_look_at_curve (consF (varF 0) nilF))) (seqS (exprS (callF 1 m_look_at_traffic (consF (varF 1) nilF))) (seqS (ifS (orT (notT (asT (isiF "tuple" (varF 2)))) (orT (asT (binF (inT true) (argF lenT (consF (varF 2) nilF)) (tupF (consF (conF (.int 1)) (consF (conF (.int 3)) nilF))))) (notT (asT (isiF "str" (binF ixT (varF 2) (conF (.int 0)))))))) (retS (conF (.bool false))) nextS) (seqS (ifS (asT (binF (eqT false) (argF lenT (consF (varF 2) nilF)) (conF (.int 1)))) (retS (andF (binF (eqT false) (binF ixT (varF 2) (conF (.int 0))) (conF (.str "fits"))) (binF (isN false) (callF 2 m_too_much (consF (varF 0) (consF (varF 1) nilF))) (conF .none)))) nextS) (seqS (ifS (orT (asT (binF (eqT true) (binF ixT (varF 2) (conF (.int 0))) (conF (.str "more")))) (orT (notT (asT (callF 3 m_is_int (consF (binF ixT (varF 2) (conF (.int 1))) (consF (conF (.int 0)) (consF (conF (.int 500)) nilF)))))) (notT (asT (callF 3 m_is_int (consF (binF ixT (varF 2) (conF (.int 2))) (consF (conF (.int 1)) (consF (conF (.int 500)) nilF)))))))) (retS (conF (.bool false))) nextS) (seqS (ifS (asT (binF gtI (binF addT (binF ixT (varF 2) (conF (.int 1))) (binF ixT (varF 2) (conF (.int 2)))) (argF lenT (consF (varF 1) nilF)))) (retS (conF (.bool false))) nextS) (retS (binF gtI (argF sumPT (consF (sliceF (varF 1) (someO (binF ixT (varF 2) (conF (.int 1)))) (someO (binF addT (binF ixT (varF 2) (conF (.int 1))) (binF ixT (varF 2) (conF (.int 2)))))) nilF)) (callF 2 m_told_at (consF (varF 0) (consF (binF ixT (varF 2) (conF (.int 2))) nilF)))))))))))
/-- shows_fits: slots 0=curve 1=traffic 2=value -/
noncomputable def m_shows_fits : DF := defF 3 b_shows_fits
noncomputable def b__law_is_burst_right : SF :=
  (seqS (setS 3 (callF 2 m__law_burst (consF (varF 1) (consF (varF 2) nilF)))) (seqS (ifS (orT (asT (binF (eqT true) (callF 2 m_least_burst (consF (varF 1) (consF (varF 2) nilF))) (varF 3))) (asT (binF (eqT true) (callF 2 m_least_burst (consF (revPF (varF 1)) (consF (varF 2) nilF))) (varF 3)))) (retS (conF (.bool false))) nextS) (seqS (setS 4 (callF 2 m__law_of (consF (varF 0) (consF (lstF (consF (varF 3) (consF (argF max2T (consF (conF (.int 0)) (consF (binF subI (varF 3) (conF (.int 1))) nilF))) (consF (binF addT (varF 3) (conF (.int 1))) (consF (argF intT (consF (callF 2 m__law_take (consF (varF 0) (consF (conF (.int 401)) nilF))) nilF)) nilF))))) nilF)))) (seqS (ifS (asT (binF leI (varF 4) (conF (.int 400)))) (seqS (setS 5 (callF 2 m_fits (consF (tupF (consF (tupF (consF (varF 4) (consF (varF 2) nilF))) nilF)) (consF (varF 1) nilF)))) (seqS (ifS (orT (asT (binF (eqT true) (binF (eqT false) (varF 5) (tupF (consF (conF (.str "fits")) nilF))) (binF geI (varF 4) (varF 3)))) (asT (binF (isB true) (callF 3 m_shows_fits (consF (tupF (consF (tupF (consF (varF 4) (consF (varF 2) nilF))) nilF)) (consF (varF 1) (consF (varF 5) nilF)))) (conF (.bool true))))) (retS (conF (.bool false))) nextS) (seqS (ifS (andT (asT (binF geI (varF 4) (varF 3))) (asT (binF (eqT true) (callF 2 m_shaped (consF (tupF (consF (tupF (consF (varF 4) (consF (varF 2) nilF))) nilF)) (consF (varF 1) nilF))) (varF 1)))) (retS (conF (.bool false))) nextS) (ifS (notT (asT (callF 2 m__law_is_bool (consF (callF 3 m_shows_fits (consF (tupF (consF (tupF (consF (varF 4) (consF (varF 2) nilF))) nilF)) (consF (varF 1) (consF (tupF (consF (conF (.str "fits")) nilF)) nilF)))) (consF (binF geI (varF 4) (varF 3)) nilF))))) (retS (conF (.bool false))) nextS)))) nextS) (seqS (setS 6 (argF (mmT maxI) (consF (binF addT (lstF (consF (conF (.int 0)) nilF)) (lcF (lstI (callF 1 m__law_windows (consF (varF 1) nilF))) (tupG 2 (consG (nameG 12) (consG (nameG 13) nilG))) yesT (binF subI (varF 12) (binF mulI (varF 2) (binF subI (varF 13) (conF (.int 1))))) [12, 13])) nilF))) (seqS (ifS (orT (asT (binF (eqT true) (callF 2 m_held (consF (tupF (consF (varF 2) (consF (conF (.int 0)) nilF))) (consF (varF 1) nilF))) (varF 6))) (andT (asT (binF geI (varF 6) (varF 2))) (andT (asT (binF (eqT true) (varF 6) (binF addT (varF 3) (varF 2)))) (asT (binF (eqT true) (varF 1) (tupF nilF)))))) (retS (conF (.bool false))) nextS) (seqS (setS 7 (callF 1 m__law_traffic (consF (varF 0) nilF))) (seqS (setS 8 (binF mulPT (tupF (consF (conF (.int 0)) nilF)) (ifF (asT (binF gtI (varF 2) (conF (.int 0)))) (binF addT (varF 3) (conF (.int 1))) (conF (.int 0))))) (seqS (ifS (andT (asT (binF gtI (varF 2) (conF (.int 0)))) (asT (binF leI (binF addT (binF addT (argF lenT (consF (varF 1) nilF)) (argF lenT (consF (varF 8) nilF))) (argF lenT (consF (varF 7) nilF))) (conF (.int 500))))) (ifS (asT (binF (eqT true) (callF 2 m_least_burst (consF (binF addT (binF addT (varF 1) (varF 8)) (varF 7)) (consF (varF 2) nilF))) (argF max2T (consF (varF 3) (consF (callF 2 m__law_burst (consF (varF 7) (consF (varF 2) nilF))) nilF))))) (retS (conF (.bool false))) nextS) nextS) (seqS (setS 9 (argF tupleT (consF (lcF (zipI (consF (varF 1) (consF (varF 7) nilF))) (tupG 2 (consG (nameG 14) (consG (nameG 15) nilG))) yesT (binF addT (varF 14) (varF 15)) [14, 15]) nilF))) (seqS (setS 10 (argF min2T (consF (argF lenT (consF (varF 1) nilF)) (consF (argF lenT (consF (varF 7) nilF)) nilF)))) (seqS (setS 11 (binF addT (callF 2 m_least_burst (consF (sliceF (varF 1) noO (someO (varF 10))) (consF (varF 2) nilF))) (callF 2 m_least_burst (consF (sliceF (varF 7) noO (someO (varF 10))) (consF (varF 2) nilF))))) (retS (orF (binF gtI (argF maxPT (consF (binF addT (varF 9) (tupF (consF (conF (.int 0)) nilF))) nilF)) (conF (.int 1000))) (binF leI (callF 2 m_least_burst (consF (varF 9) (consF (argF min2T (consF (conF (.int 100)) (consF (binF mulI (conF (.int 2)) (varF 2)) nilF))) nilF))) (varF 11))))))))))))))))
/-- _law_is_burst_right: slots 0=pot 1=traffic 2=rate 3=burst 4=some 5=told 6=due 7=other 8=wide 9=both 10=few 11=far 12=much 13=many 14=one 15=two -/
noncomputable def m__law_is_burst_right : DF := defF 16 b__law_is_burst_right
noncomputable def b__law_late : SF :=
  (seqS (setS 2 (conF (.int 0))) (seqS (forS (enumI (consF (varF 1) nilF)) (tupG 2 (consG (nameG 3) (consG (nameG 4) nilG))) (ifS (asT (binF gtI (varF 4) (conF (.int 0)))) (forS (range1I (consF (binF addT (varF 3) (conF (.int 1))) nilF)) (nameG 5) (seqS (setS 6 (argF sumPT (consF (sliceF (varF 1) (someO (varF 5)) (someO (binF addT (varF 3) (conF (.int 1))))) nilF))) (setS 2 (argF max2T (consF (varF 2) (consF (binF subI (binF addT (binF ixT (varF 0) (conF (.int 1))) (unF negF (binF divI (unF negF (varF 6)) (binF ixT (varF 0) (conF (.int 0)))))) (binF addT (binF subI (varF 3) (varF 5)) (conF (.int 1)))) nilF)))))) nextS)) (retS (varF 2))))
/-- _law_late: slots 0=server 1=traffic 2=found 3=last 4=much 5=start 6=need -/
noncomputable def m__law_late : DF := defF 7 b__law_late
noncomputable def b_late_by : SF :=
  (retS (binF subI (binF addT (binF ixT (varF 0) (conF (.int 1))) (unF negF (binF divI (unF negF (varF 1)) (binF ixT (varF 0) (conF (.int 0)))))) (varF 2)))
/-- late_by: slots 0=server 1=need 2=ticks -/
noncomputable def m_late_by : DF := defF 3 b_late_by
noncomputable def b_ticks_of : SF :=
  (seqS (setS 1 (disp1F (conF (.int 1)) (conF (.bool true)))) (seqS (forS (enumI (consF (varF 0) nilF)) (tupG 2 (consG (nameG 2) (consG (nameG 3) nilG))) (forS (tupI (sliceF (varF 0) (someO (binF addT (varF 2) (conF (.int 1)))) noO)) (nameG 4) (seqS (setS 5 (binF divI (binF subI (binF ixT (varF 4) (conF (.int 0))) (binF ixT (varF 3) (conF (.int 0)))) (binF subI (binF ixT (varF 3) (conF (.int 1))) (binF ixT (varF 4) (conF (.int 1)))))) (forS (tupI (tupF (consF (varF 5) (consF (binF addT (varF 5) (conF (.int 1))) nilF)))) (nameG 6) (dputS (varF 1) (argF max2T (consF (conF (.int 1)) (consF (varF 6) nilF))) (conF (.bool true))))))) (retS (argF sortedKT (consF (varF 1) nilF)))))
/-- ticks_of: slots 0=curve 1=found 2=at 3=one 4=other 5=bend 6=tick -/
noncomputable def m_ticks_of : DF := defF 7 b_ticks_of
noncomputable def b_told_late : SF :=
  (seqS (ifS (asT (binF (eqT false) (callF 2 m_told_at (consF (varF 0) (consF (conF (.int 1)) nilF))) (conF (.int 0)))) (retS (conF (.int 0))) nextS) (seqS (ifS (orT (asT (binF (eqT false) (binF ixT (varF 1) (conF (.int 0))) (conF (.int 0)))) (asT (binF gtI (binF ixT (binF ixT (varF 0) (unF negF (conF (.int 1)))) (conF (.int 1))) (binF ixT (varF 1) (conF (.int 0)))))) (retS (conF .none)) nextS) (retS (argF (mmT maxI) (consF (lstF (consF (conF (.int 0)) (starF (lcF (lstI (callF 1 m_ticks_of (consF (varF 0) nilF))) (nameG 2) yesT (callF 3 m_late_by (consF (varF 1) (consF (callF 2 m_told_at (consF (varF 0) (consF (varF 2) nilF))) (consF (varF 2) nilF)))) [2]) nilF))) nilF)))))
/-- told_late: slots 0=curve 1=server 2=ticks -/
noncomputable def m_told_late : DF := defF 3 b_told_late
noncomputable def b_greatest : SF :=
  (retS (argF tupleT (consF (lcF (range1I (consF (varF 1) nilF)) (nameG 2) yesT (binF subI (callF 2 m_told_at (consF (varF 0) (consF (binF addT (varF 2) (conF (.int 1))) nilF))) (callF 2 m_told_at (consF (varF 0) (consF (varF 2) nilF)))) [2]) nilF)))
/-- greatest: slots 0=curve 1=ticks 2=tick -/
noncomputable def m_greatest : DF := defF 3 b_greatest
noncomputable def b_late_most : SF :=
  (seqS (exprS (callF 1 m_look_at_curve (consF (varF 0) nilF))) (seqS (exprS (callF 1 m_look_at_server (consF (varF 1) nilF))) (seqS (setS 2 (callF 2 m_told_late (consF (varF 0) (consF (varF 1) nilF)))) (seqS (ifS (asT (binF (isN false) (varF 2) (conF .none))) (retS (tupF (consF (conF (.str "never")) nilF))) nextS) (seqS (ifS (asT (binF (eqT false) (varF 2) (conF (.int 0)))) (retS (tupF (consF (conF (.str "late")) (consF (conF (.int 0)) (consF (tupF nilF) nilF))))) nextS) (seqS (setS 3 (lcF (lstI (callF 1 m_ticks_of (consF (varF 0) nilF))) (nameG 4) (asT (binF (eqT false) (callF 3 m_late_by (consF (varF 1) (consF (callF 2 m_told_at (consF (varF 0) (consF (varF 4) nilF))) (consF (varF 4) nilF)))) (varF 2))) (varF 4) [4])) (retS (tupF (consF (conF (.str "late")) (consF (varF 2) (consF (callF 2 m_greatest (consF (varF 0) (consF (binF ixT (varF 3) (conF (.int 0))) nilF))) nilF)))))))))))
/-- late_most: slots 0=curve 1=server 2=told 3=some 4=ticks -/
noncomputable def m_late_most : DF := defF 5 b_late_most
noncomputable def b_told_passed : SF :=
  (seqS (setS 2 (lstF nilF)) (seqS (forS (range1I (consF (argF lenT (consF (varF 1) nilF)) nilF)) (nameG 3) (seqS (setS 4 (lstF (consF (varF 3) nilF))) (seqS (forS (range1I (consF (binF addT (varF 3) (conF (.int 1))) nilF)) (nameG 5) (seqS (setS 6 (argF sumPT (consF (sliceF (varF 1) (someO (varF 5)) (someO (binF addT (varF 3) (conF (.int 1))))) nilF))) (ifS (asT (binF gtI (varF 6) (conF (.int 0)))) (exprS (methF appendT (varF 4) (consF (binF addT (varF 3) (callF 3 m_late_by (consF (varF 0) (consF (varF 6) (consF (binF addT (binF subI (varF 3) (varF 5)) (conF (.int 1))) nilF))))) nilF))) nextS))) (exprS (methF appendT (varF 2) (consF (argF (mmT maxI) (consF (varF 4) nilF)) nilF)))))) (retS (varF 2))))
/-- told_passed: slots 0=server 1=traffic 2=found 3=last 4=ends 5=start 6=need -/
noncomputable def m_told_passed : DF := defF 7 b_told_passed
noncomputable def b_lateness : SF :=
  (seqS (exprS (callF 1 m_look_at_server (consF (varF 0) nilF))) (seqS (exprS (callF 1 m_look_at_traffic (consF (varF 1) nilF))) (seqS (ifS (asT (binF (eqT false) (binF ixT (varF 0) (conF (.int 0))) (conF (.int 0)))) (retS (ifF (asT (binF gtI (argF sumPT (consF (varF 1) nilF)) (conF (.int 0)))) (conF .none) (conF (.int 0)))) nextS) (retS (argF (mmT maxI) (consF (lstF (consF (conF (.int 0)) (starF (lcF (enumI (consF (callF 2 m_told_passed (consF (varF 0) (consF (varF 1) nilF))) nilF)) (tupG 2 (consG (nameG 2) (consG (nameG 3) nilG))) (asT (binF gtI (binF ixT (varF 1) (varF 2)) (conF (.int 0)))) (binF subI (varF 3) (varF 2)) [2, 3]) nilF))) nilF))))))
/-- lateness: slots 0=server 1=traffic 2=last 3=end -/
noncomputable def m_lateness : DF := defF 4 b_lateness
noncomputable def b_let_in : SF :=
  (seqS (exprS (callF 1 m_look_at_curve (consF (varF 0) nilF))) (seqS (ifS (notT (asT (callF 3 m_is_int (consF (varF 1) (consF (conF (.int 0)) (consF (binF powA (conF (.int 10)) (conF (.int 6))) nilF)))))) noneS nextS) (retS (callF 2 m_told_at (consF (varF 0) (consF (varF 1) nilF))))))
/-- let_in: slots 0=curve 1=ticks -/
noncomputable def m_let_in : DF := defF 2 b_let_in
noncomputable def b_passed_on : SF :=
  (seqS (exprS (callF 1 m_look_at_server (consF (varF 0) nilF))) (seqS (ifS (notT (asT (callF 3 m_is_int (consF (varF 1) (consF (conF (.int 0)) (consF (binF powA (conF (.int 10)) (conF (.int 6))) nilF)))))) noneS nextS) (retS (callF 2 m_told_served (consF (varF 0) (consF (varF 1) nilF))))))
/-- passed_on: slots 0=server 1=ticks -/
noncomputable def m_passed_on : DF := defF 2 b_passed_on
noncomputable def b_held_most : SF :=
  (seqS (exprS (callF 1 m_look_at_curve (consF (varF 0) nilF))) (seqS (exprS (callF 1 m_look_at_server (consF (varF 1) nilF))) (seqS (ifS (asT (binF gtI (binF ixT (binF ixT (varF 0) (unF negF (conF (.int 1)))) (conF (.int 1))) (binF ixT (varF 1) (conF (.int 0))))) (retS (conF .none)) nextS) (seqS (setS 2 (lstF (starF (callF 1 m_ticks_of (consF (varF 0) nilF)) (consF (binF addT (binF ixT (varF 1) (conF (.int 1))) (conF (.int 1))) (consF (binF addT (binF ixT (varF 1) (conF (.int 1))) (conF (.int 2))) nilF))))) (retS (argF (mmT maxI) (consF (lcF (lstI (varF 2)) (nameG 3) yesT (binF subI (callF 2 m_told_at (consF (varF 0) (consF (varF 3) nilF))) (callF 2 m_told_served (consF (varF 1) (consF (binF subI (varF 3) (conF (.int 1))) nilF)))) [3]) nilF)))))))
/-- held_most: slots 0=curve 1=server 2=some 3=tick -/
noncomputable def m_held_most : DF := defF 4 b_held_most
noncomputable def b__law_are_lates_right : SF :=
  (seqS (parS 3 4 (consF (argF intT (consF (callF 2 m__law_take (consF (varF 0) (consF (conF (.int 100)) nilF))) nilF)) (consF (argF intT (consF (callF 2 m__law_take (consF (varF 0) (consF (conF (.int 101)) nilF))) nilF)) nilF))) (seqS (ifS (asT (binF (eqT false) (varF 2) (conF (.int 0)))) (retS (binF (eqT false) (argF reprNT (consF (callF 2 m_lateness (consF (tupF (consF (conF (.int 0)) (consF (varF 3) nilF))) (consF (varF 1) nilF))) nilF)) (argF reprNT (consF (ifF (asT (binF gtI (argF sumPT (consF (varF 1) nilF)) (conF (.int 0)))) (conF .none) (conF (.int 0))) nilF)))) nextS) (seqS (setS 5 (callF 2 m__law_late (consF (tupF (consF (varF 2) (consF (varF 3) nilF))) (consF (varF 1) nilF)))) (seqS (ifS (asT (binF (eqT true) (callF 2 m_lateness (consF (tupF (consF (varF 2) (consF (varF 3) nilF))) (consF (varF 1) nilF))) (varF 5))) (retS (conF (.bool false))) nextS) (seqS (ifS (asT (binF (eqT true) (callF 2 m_lateness (consF (tupF (consF (varF 2) (consF (binF addT (varF 3) (varF 4)) nilF))) (consF (varF 1) nilF))) (ifF (asT (binF gtI (argF sumPT (consF (varF 1) nilF)) (conF (.int 0)))) (binF addT (varF 5) (varF 4)) (conF (.int 0))))) (retS (conF (.bool false))) nextS) (seqS (setS 6 (callF 2 m__law_burst (consF (varF 1) (consF (varF 2) nilF)))) (seqS (ifS (orT (asT (binF gtI (varF 6) (conF (.int 400)))) (asT (binF (eqT false) (binF addT (varF 6) (varF 2)) (conF (.int 0))))) (retS (conF (.bool true))) nextS) (seqS (setS 7 (tupF (consF (tupF (consF (varF 6) (consF (varF 2) nilF))) nilF))) (seqS (setS 8 (callF 2 m_late_most (consF (varF 7) (consF (tupF (consF (varF 2) (consF (varF 3) nilF))) nilF)))) (seqS (ifS (orT (asT (binF (eqT true) (sliceF (varF 8) noO (someO (conF (.int 2)))) (tupF (consF (conF (.str "late")) (consF (binF subI (binF addT (varF 3) (unF negF (binF divI (unF negF (binF addT (varF 6) (varF 2))) (varF 2)))) (conF (.int 1))) nilF))))) (asT (binF gtI (varF 5) (binF ixT (varF 8) (conF (.int 1)))))) (retS (conF (.bool false))) nextS) (seqS (ifS (asT (binF (eqT true) (binF ixT (callF 2 m_late_most (consF (varF 7) (consF (tupF (consF (varF 2) (consF (binF addT (varF 3) (varF 4)) nilF))) nilF))) (conF (.int 1))) (binF addT (binF ixT (varF 8) (conF (.int 1))) (varF 4)))) (retS (conF (.bool false))) nextS) (seqS (setS 5 (binF addT (varF 6) (binF mulI (varF 2) (binF addT (varF 3) (conF (.int 1)))))) (seqS (ifS (orT (asT (binF (eqT true) (callF 2 m_held_most (consF (varF 7) (consF (tupF (consF (varF 2) (consF (varF 3) nilF))) nilF))) (varF 5))) (asT (binF gtI (callF 2 m_held (consF (tupF (consF (varF 2) (consF (varF 3) nilF))) (consF (varF 1) nilF))) (varF 5)))) (retS (conF (.bool false))) nextS) (seqS (setS 9 (argF intT (consF (callF 2 m__law_take (consF (varF 0) (consF (binF addT (binF powA (conF (.int 10)) (conF (.int 6))) (conF (.int 1))) nilF))) nilF))) (seqS (ifS (asT (binF (eqT true) (callF 2 m_let_in (consF (varF 7) (consF (varF 9) nilF))) (binF mulI (binF addT (varF 6) (binF mulI (varF 2) (varF 9))) (argF intT (consF (binF gtI (varF 9) (conF (.int 0))) nilF))))) (retS (conF (.bool false))) nextS) (retS (binF (eqT false) (callF 2 m_passed_on (consF (tupF (consF (varF 2) (consF (varF 3) nilF))) (consF (varF 9) nilF))) (binF mulI (varF 2) (argF max2T (consF (conF (.int 0)) (consF (binF subI (varF 9) (varF 3)) nilF)))))))))))))))))))))
/-- _law_are_lates_right: slots 0=pot 1=traffic 2=rate 3=late 4=more 5=due 6=burst 7=curve 8=worst 9=ticks -/
noncomputable def m__law_are_lates_right : DF := defF 10 b__law_are_lates_right
noncomputable def b_law : SF :=
  (seqS (forS (lstI (callF 2 m__law_cells (consF (varF 0) (consF (conF (.int 3)) nilF)))) (nameG 1) (seqS (setS 2 (callF 2 m__law_pot (consF (varF 0) (consF (varF 1) nilF)))) (forS (range1I (consF (conF (.int 2)) nilF)) (nameG 3) (seqS (parS 4 5 (consF (callF 1 m__law_traffic (consF (varF 2) nilF)) (consF (argF intT (consF (callF 2 m__law_take (consF (varF 2) (consF (callF 2 m__law_of (consF (varF 2) (consF (lstF (consF (conF (.int 4)) (consF (conF (.int 12)) (consF (conF (.int 101)) nilF)))) nilF))) nilF))) nilF)) nilF))) (seqS (ifS (orT (notT (asT (callF 3 m__law_is_burst_right (consF (varF 2) (consF (varF 4) (consF (varF 5) nilF)))))) (notT (asT (callF 3 m__law_are_lates_right (consF (varF 2) (consF (varF 4) (consF (varF 5) nilF))))))) (retS (conF (.bool false))) nextS) (ifS (notT (asT (callF 3 m__law_is_shaped_right (consF (varF 2) (consF (varF 4) (consF (varF 5) nilF)))))) (retS (conF (.bool false))) nextS)))))) (retS (conF (.bool true))))
/-- law: slots 0=script 1=place 2=pot 3=lap 4=traffic 5=rate -/
noncomputable def m_law : DF := defF 6 b_law
end G50
set_option maxHeartbeats 1000000
/-! C50: what every law of this kind has: draws, the pot, the cells (template Common.in). -/
namespace G50
open PySem PySem.Spec PyProof.Rows L2 Pv
@[simp] theorem ap0 {α : Type} {S : List α} {x : α} : (S ++ [x])[S.length]? = some x := by simp
@[simp] theorem st0 {α : Type} {S : List α} {x y : α} : (S ++ [x]).set S.length y = S ++ [y] := by simp
@[simp] theorem rangeL_len (lo : Int) (k : Nat) : (rangeL lo k).length = k := by simp [rangeL]
theorem r_is_int (k lo hi : Int) (S : Sto) : m_is_int [.p (.int k), .p (.int lo), .p (.int hi)] S = some (.p (.bool (decide (lo ≤ k) && decide (k ≤ hi))), S) := by
  refine m_ret (r := .p (.bool (decide (lo ≤ k) && decide (k ≤ hi)))) (env' := _) (S' := S) (by
    by_cases h : lo ≤ k <;> simp [b_is_int, h]
    all_goals rfl) (by simp)
abbrev pot3 (a b c : Int) : O := .lst [.int a, .int b, .int c]
@[simp] theorem tk1 {α : Type} {R : List α} {x : α} : (R ++ [x]).take (R.length + 1) = R ++ [x] := by
  have := List.take_length_add_append (l₁ := R) (l₂ := [x]) 1
  simpa using this
@[simp] theorem tk2 {α : Type} {R : List α} {x y : α} : (R ++ [x, y]).take (R.length + 2) = R ++ [x, y] := by
  have := List.take_length_add_append (l₁ := R) (l₂ := [x, y]) 2
  simpa using this
@[simp] theorem tk12 {α : Type} {R : List α} {x y : α} : (R ++ [x, y]).take (R.length + 1) = R ++ [x] := by
  have := List.take_length_add_append (l₁ := R) (l₂ := [x, y]) 1
  simpa using this
@[simp] theorem at0 {α : Type} {x : α} {l : List α} : atI (x :: l) 0 = some x := by unfold atI ixN; simp
@[simp] theorem at1 {α : Type} {x y : α} {l : List α} : atI (x :: y :: l) 1 = some y := atI_nat (j := 1) rfl
@[simp] theorem at2 {α : Type} {x y z : α} {l : List α} : atI (x :: y :: z :: l) 2 = some z := atI_nat (j := 2) rfl
theorem primes (c : Int) : ∃ p : Int, atI [PyData.int 2147483647, .int 2147483629, .int 2147483587, .int 2147483579, .int 2147483563] (c % 5) = some (.int p) ∧ 0 < p ∧ p < 2 ^ 31 := by
  have h1 := Int.emod_nonneg c (by decide : (5 : Int) ≠ 0)
  have h2 := Int.emod_lt_of_pos c (by decide : (0 : Int) < 5)
  generalize c % 5 = m at h1 h2
  have : m = 0 ∨ m = 1 ∨ m = 2 ∨ m = 3 ∨ m = 4 := by omega
  rcases this with rfl | rfl | rfl | rfl | rfl
  · exact ⟨_, rfl, by decide, by decide⟩
  · exact ⟨_, rfl, by decide, by decide⟩
  · exact ⟨_, rfl, by decide, by decide⟩
  · exact ⟨_, rfl, by decide, by decide⟩
  · exact ⟨_, rfl, by decide, by decide⟩
theorem cmul_r {i j : Int} (h : -(2 ^ 64) < j) (h' : j < 2 ^ 64) : CMul i j := .inr ⟨h, h'⟩
theorem cmul_l {i j : Int} (h : -(2 ^ 64) < i) (h' : i < 2 ^ 64) : CMul i j := .inl ⟨h, h'⟩
theorem r_take (a b c u : Int) (ha : 0 ≤ a) (hb : 0 ≤ b) (hb2 : b < 2305843009213693921) (hc : 0 ≤ c) (hc2 : c ≤ 1000000) (hu : 0 < u) (hu2 : u < 2000000) (C : O) (R : Sto) :
    ∃ a' c' d, m__law_take [.loc 1, .p (.int u)] (C :: pot3 a b c :: R) = some (.p (.int d), C :: pot3 a' b c' :: R) ∧ 0 ≤ a' ∧ c ≤ c' ∧ c' ≤ c + 1 ∧ 0 ≤ d ∧ d < u := by
  have dv : ∀ x, CDiv x u := fun x => ⟨hu, by omega⟩
  have md : ∀ x, 0 ≤ x % u ∧ x % u < u := fun x => ⟨Int.emod_nonneg _ (by omega), Int.emod_lt_of_pos _ hu⟩
  by_cases h : 0 < a
  · refine ⟨a / u, c, a % u, m_ret (r := .p (.int (a % u))) (env' := _) (S' := C :: pot3 (a / u) b c :: R) (by
      simp [b__law_take, h, hu, dv, ixN]
      rfl) (by simp), Int.ediv_nonneg ha (by omega), by omega, by omega, md a⟩
  · obtain ⟨p, hp, hp0, hp1⟩ := primes (c + 1)
    have c1 : ∀ i, CMul 93257 i := fun i => cmul_l (by decide) (by decide)
    have c2 : ∀ i, CMul i (c + 1) := fun i => cmul_r (by omega) (by omega)
    have c3 : ∀ i, CMul 439 i := fun i => cmul_l (by decide) (by decide)
    have c4 : ∀ i j, CMul (i % p) j := fun i j => by
      have h1 := Int.emod_nonneg i (by omega : p ≠ 0)
      have h2 := Int.emod_lt_of_pos i hp0
      exact cmul_l (by omega) (by omega)
    have hsq : 0 ≤ 93257 * (c + 1) * (c + 1) ∧ 93257 * (c + 1) * (c + 1) ≤ 93257 * 1000001 * 1000001 :=
      ⟨Int.mul_nonneg (by omega) (by omega), Int.mul_le_mul (by omega) (by omega) (by omega) (by omega)⟩
    have c5 : CPowA (b + 93257 * (c + 1) * (c + 1) + 4153) 3 := .inl ⟨by decide, by decide, by omega⟩
    have c6 : ∀ i, CDiv i 251 := fun i => ⟨by decide, by decide⟩
    refine ⟨a, c + 1, (b + 93257 * (c + 1) * (c + 1) + 4153) ^ 3 % p * ((b + 93257 * (c + 1) * (c + 1) + 4153) ^ 3 % p % 12923 + 439 * (c + 1)) % 2305843009213693907 / 251 % u, m_ret (r := .p (.int _)) (env' := _) (S' := C :: pot3 a b (c + 1) :: R) (by
      simp [b__law_take, h, hu, dv, ixN, hp, hp0, c1, c2, c3, c4, c5, c6, allP, gcOb, gcV, gcT]
      first | exact ⟨rfl, rfl⟩ | rfl) (by simp), ha, by omega, by omega, (md _).1, (md _).2⟩
/-- draws from the pot: the store's second object -/
def PotOk (k : Int) (p : O) : Prop := ∃ a b c, p = pot3 a b c ∧ 0 ≤ a ∧ 0 ≤ b ∧ b < 2305843009213693921 ∧ 0 ≤ c ∧ c ≤ k
theorem PotOk.mono {k l : Int} {p : O} (h : PotOk k p) (hl : k ≤ l) : PotOk l p := by
  obtain ⟨a, b, c, e, h1, h2, h3, h4, h5⟩ := h
  exact ⟨a, b, c, e, h1, h2, h3, h4, by omega⟩
theorem p_take {k u : Int} {p C : O} {R : Sto} (h : PotOk k p) (hk : k ≤ 1000000) (hu : 0 < u) (hu2 : u < 2000000) : ∃ p' d, m__law_take [.loc 1, .p (.int u)] (C :: p :: R) = some (.p (.int d), C :: p' :: R) ∧ PotOk (k + 1) p' ∧ 0 ≤ d ∧ d < u := by
  obtain ⟨a, b, c, rfl, h1, h2, h3, h4, h5⟩ := h
  obtain ⟨a', c', d, e, h6, h7, h8, h9, h10⟩ := r_take a b c u h1 h2 h3 h4 (by omega) hu hu2 C R
  exact ⟨_, d, e, ⟨a', b, c', rfl, h6, h2, h3, by omega, by omega⟩, h9, h10⟩
theorem atI_lt {xs : List Int} {d : Int} (h0 : 0 ≤ d) (h1 : d < xs.length) : ∃ y, y ∈ xs ∧ atI (xs.map PyData.int) d = some (.int y) := by
  obtain ⟨n, rfl⟩ := Int.eq_ofNat_of_zero_le h0
  have hl : n < xs.length := by omega
  exact ⟨xs[n], List.getElem_mem hl, atI_nat (by rw [List.getElem?_map, List.getElem?_eq_getElem hl]; rfl)⟩
/-- a drawn one of some -/
theorem p_of {k : Int} {p C : O} {R : Sto} {xs : List Int} (h : PotOk k p) (hk : k ≤ 1000000) (hx : 0 < xs.length) (hx2 : xs.length < 1000000) : ∃ (p' : O) (d : Int), d ∈ xs ∧ PotOk (k + 1) p' ∧ m__law_of [.loc 1, .loc (R.length + 2)] (C :: p :: (R ++ [.lst (xs.map PyData.int)])) = some (.p (.int d), C :: p' :: (R ++ [.lst (xs.map PyData.int)])) := by
  obtain ⟨p', d, e, h1, h2, h3⟩ := p_take (C := C) (R := R ++ [.lst (xs.map PyData.int)]) (u := (xs.length : Int)) h hk (by omega) (by omega)
  obtain ⟨y, hy, ha⟩ := atI_lt h2 h3
  refine ⟨p', y, hy, h1, m_ret (r := .p (.int y)) (env' := [some (.loc 1), some (.loc (R.length + 2))]) (S' := C :: p' :: (R ++ [.lst (xs.map PyData.int)])) ?_ (by simp)⟩
  show retS (binF ixT (varF 1) (callF 2 m__law_take (consF (varF 0) (consF (argF lenT (consF (varF 1) nilF)) nilF)))) _ [some (.loc 1), some (.loc (R.length + 2))] _ = _
  refine ret_go ?_
  have hS : (C :: p :: (R ++ [.lst (xs.map PyData.int)]))[R.length + 2]? = some (.lst (xs.map PyData.int)) := by simp
  have hS' : (C :: p' :: (R ++ [.lst (xs.map PyData.int)]))[R.length + 2]? = some (.lst (xs.map PyData.int)) := by simp
  have c1 : callF 2 m__law_take (consF (varF 0) (consF (argF lenT (consF (varF 1) nilF)) nilF)) [some (.loc 1), some (.loc (R.length + 2))] (C :: p :: (R ++ [.lst (xs.map PyData.int)])) = some (.p (.int d), C :: p' :: (R ++ [.lst (xs.map PyData.int)])) := by
    have l := e_lenL hS
    rw [List.length_map] at l
    rw [e_call, e_cons, e_var]
    show (Option.bind (Option.bind (varK _ (some (some (T.loc 1)))) _) _) = _
    rw [e_varK, dn_loc, Option.bind_some, e_cons1, e_cons, e_arg, e_cons, e_var]
    show (Option.bind (Option.map _ (Option.bind (Option.bind (Option.bind (varK _ (some (some (T.loc (R.length + 2))))) _) _) _)) _) = _
    rw [e_varK, dn_loc, Option.bind_some, e_cons1, e_nil, Option.map_some, e_cons2, Option.bind_some, e_argK, l, Option.bind_some, e_cons1, e_nil, Option.map_some, e_cons2, Option.map_some, e_cons2, Option.bind_some]
    exact (e_callK (n := 2) rfl).trans e
  rw [e_bin, e_var]
  show (Option.bind (varK _ (some (some (T.loc (R.length + 2))))) _) = _
  rw [e_varK, dn_loc, Option.bind_some, e_bin1, c1, Option.bind_some, e_bin2, e_ixL hS', ha]
  rfl
theorem isint_b (k lo hi : Int) (h1 : lo ≤ k) (h2 : k ≤ hi) (S : Sto) : m_is_int [.p (.int k), .p (.int lo), .p (.int hi)] S = some (.p (.bool true), S) := by
  rw [r_is_int, decide_eq_true h1, decide_eq_true h2]; rfl
theorem all_true : ∀ (n : Nat), (List.replicate n true).all id = true
  | 0 => rfl
  | n + 1 => by rw [List.replicate_succ, List.all_cons, all_true n]; rfl
theorem const_map {α β : Type} (c : β) : ∀ l : List α, (l.filter fun _ => true).map (fun _ => c) = List.replicate l.length c
  | [] => rfl
  | x :: l => by rw [List.filter_cons, if_pos rfl, List.map_cons, const_map c l]; rfl
def cellsN (ns : List Int) : Nat := max 1 (min 3 ns.length)
theorem lrg_ok {fe : EF} {env : Pv.Env} {S S' : Sto} {c : Nat} (h : fe env S = some (.p (.int (c : Int)), S')) (hc : c ≤ 1000000) : lrg1F fe env S = some (.loc S'.length, S' ++ [.lst (rgD 0 c)]) := by
  unfold lrg1F
  rw [h, Option.bind_some]
  simp only
  rw [if_pos (RgOk.of_le (by omega) (by omega) (by omega) (by omega))]
theorem r_cells (S : Sto) (ns : List Int) : m__law_cells [.ro (ns.map PyData.int), .p (.int 3)] S = some (.loc S.length, S ++ [.lst (rgD 0 (cellsN ns : Nat))]) := by
  have hv : argF max2T (consF (conF (.int 1)) (consF (argF min2T (consF (varF 1) (consF (argF lenT (consF (varF 0) nilF)) nilF))) nilF)) [some (.ro (ns.map PyData.int)), some (.p (.int 3))] S = some (.p (.int ((cellsN ns : Nat) : Int)), S) := by
    have e : (if (if ((ns.length : Nat) : Int) < 3 then ((ns.length : Nat) : Int) else 3) > 1 then (if ((ns.length : Nat) : Int) < 3 then ((ns.length : Nat) : Int) else 3) else 1) = ((cellsN ns : Nat) : Int) := by
      unfold cellsN
      split <;> split <;> omega
    rw [← e]
    simp
  have b1 := lrg_ok hv (by unfold cellsN; omega)
  exact m_ret (show retS _ _ _ _ = _ from ret_go b1) (gc_new rfl)
abbrev ptE (ns : List Int) (place : Int) (x2 x3 x4 : Option T) : Pv.Env := [some (.ro (ns.map PyData.int)), some (.p (.int place)), x2, x3, x4]
theorem pot_cell (S : Sto) (ns : List Int) (place : Nat) (hp : place ≤ 10) : ∃ c : Int, setS 2 (ifF (asT (binF ltI (varF 1) (argF lenT (consF (varF 0) nilF)))) (binF ixT (varF 0) (varF 1)) (binF addT (binF addT (binF modI (argF intT (consF (argF sumT (consF (sliceF (varF 0) noO (someO (conF (.int 1)))) nilF)) nilF)) (conF (.int 1000291))) (binF mulI (conF (.int 7351)) (varF 1))) (conF (.int 4153)))) S.length (ptE ns place none none none) S
    = some (.nx, ptE ns place (some (.p (.int c))) none none, S) := by
  by_cases h : place < ns.length
  · have ha : atI (ns.map PyData.int) (place : Int) = some (.int ns[place]) := atI_nat (by rw [List.getElem?_map, List.getElem?_eq_getElem h]; rfl)
    have hi : ((place : Nat) : Int) < ((ns.length : Nat) : Int) := by omega
    have hv : ifF (asT (binF ltI (varF 1) (argF lenT (consF (varF 0) nilF)))) (binF ixT (varF 0) (varF 1)) (binF addT (binF addT (binF modI (argF intT (consF (argF sumT (consF (sliceF (varF 0) noO (someO (conF (.int 1)))) nilF)) nilF)) (conF (.int 1000291))) (binF mulI (conF (.int 7351)) (varF 1))) (conF (.int 4153))) (ptE ns place none none none) S = some (.p (.int ns[place]), S) := by
      rw [e_if, show asT (binF ltI (varF 1) (argF lenT (consF (varF 0) nilF))) (ptE ns place none none none) S = some (true, S) by simp [h], Option.bind_some, e_if1 rfl]
      simp [ha]
    refine ⟨ns[place], ?_⟩
    rw [s_set, hv, Option.bind_some, s_set1, gc_p, Option.map_some, s_set2, List.take_length]
    rfl
  · have cm : CMul 7351 place := cmul_l (by decide) (by decide)
    have hs : sliceF (varF 0) noO (someO (conF (.int 1))) (ptE ns place none none none) S = some (.loc S.length, S ++ [.lst ((cutL ns none (some 1)).map PyData.int)]) := by
      have e : cutL (ns.map PyData.int) none (some 1) = (cutL ns none (some 1)).map PyData.int := by
        unfold cutL
        rw [List.length_map, List.map_take, List.map_drop]
      rw [← e]
      simp [sliceF, someO, noO, slT, lstOf]
    have hsum := e_sumL (S := S ++ [.lst ((cutL ns none (some 1)).map PyData.int)]) (i := S.length) (ns := cutL ns none (some 1)) ap0
    have hv : ifF (asT (binF ltI (varF 1) (argF lenT (consF (varF 0) nilF)))) (binF ixT (varF 0) (varF 1)) (binF addT (binF addT (binF modI (argF intT (consF (argF sumT (consF (sliceF (varF 0) noO (someO (conF (.int 1)))) nilF)) nilF)) (conF (.int 1000291))) (binF mulI (conF (.int 7351)) (varF 1))) (conF (.int 4153))) (ptE ns place none none none) S
        = some (.p (.int ((cutL ns none (some 1)).sum % 1000291 + 7351 * place + 4153)), S ++ [.lst ((cutL ns none (some 1)).map PyData.int)]) := by
      rw [e_if, show asT (binF ltI (varF 1) (argF lenT (consF (varF 0) nilF))) (ptE ns place none none none) S = some (false, S) by simp [h], Option.bind_some, e_if0 rfl]
      simp [hs, hsum, cm]
    refine ⟨(cutL ns none (some 1)).sum % 1000291 + 7351 * place + 4153, ?_⟩
    rw [s_set, hv, Option.bind_some, s_set1, gc_p, Option.map_some, s_set2]
    simp
def big1 : Int := 10 ^ (60 : Int).toNat
def big5 : Int := big1 ^ (5 : Int).toNat
theorem big_pos : 0 < big5 := by decide +kernel
theorem pow1 (S : Sto) : powA (.p (.int 10)) (.p (.int 60)) S = some (.p (.int big1), S) := e_pow (.inl ⟨by decide, by decide, by decide⟩)
theorem pow5 (S : Sto) : powA (.p (.int big1)) (.p (.int 5)) S = some (.p (.int big5), S) := e_pow (.inr ⟨by decide, by decide +kernel⟩)
theorem pow18 (S : Sto) : ∃ q : Int, powA (.p (.int 10)) (.p (.int 18)) S = some (.p (.int q), S) := ⟨_, e_pow (.inl ⟨by decide, by decide, by decide⟩)⟩
theorem pot_own (S : Sto) (ns : List Int) (place c : Int) (n : Nat) : ∃ o : Int, 0 ≤ o ∧ setS 3 (binF mulI (binF modI (argF intT (consF (argF absT (consF (varF 2) nilF)) nilF)) (binF powA (binF powA (conF (.int 10)) (conF (.int 60))) (conF (.int 5)))) (argF intT (consF (binF geI (argF absT (consF (varF 2) nilF)) (binF powA (conF (.int 10)) (conF (.int 18)))) nilF))) n (ptE ns place (some (.p (.int c))) none none) S
    = some (.nx, ptE ns place (some (.p (.int c))) (some (.p (.int o))) none, S) := by
  obtain ⟨q, hq⟩ := pow18 S
  have hm : ∀ x, modI (.p (.int x)) (.p (.int big5)) S = some (.p (.int (x % big5)), S) := fun x => e_mod big_pos
  have h1 : binF modI (argF intT (consF (argF absT (consF (varF 2) nilF)) nilF)) (binF powA (binF powA (conF (.int 10)) (conF (.int 60))) (conF (.int 5))) (ptE ns place (some (.p (.int c))) none none) S = some (.p (.int ((if c < 0 then -c else c) % big5)), S) := by
    rw [e_bin, show argF intT (consF (argF absT (consF (varF 2) nilF)) nilF) (ptE ns place (some (.p (.int c))) none none) S = some (.p (.int (if c < 0 then -c else c)), S) by simp, Option.bind_some, e_bin1, e_bin, e_bin, e_con, Option.bind_some, e_bin1, e_con, Option.bind_some, e_bin2, pow1, Option.bind_some, e_bin1, e_con, Option.bind_some, e_bin2, pow5, Option.bind_some, e_bin2, hm]
  obtain ⟨b, hb, h2⟩ : ∃ b : Int, (b = 0 ∨ b = 1) ∧ argF intT (consF (binF geI (argF absT (consF (varF 2) nilF)) (binF powA (conF (.int 10)) (conF (.int 18)))) nilF) (ptE ns place (some (.p (.int c))) none none) S = some (.p (.int b), S) := by
    refine ⟨if decide (q ≤ (if c < 0 then -c else c)) = true then 1 else 0, by cases decide (q ≤ (if c < 0 then -c else c)) <;> simp, ?_⟩
    rw [e_arg, e_cons, e_bin, show argF absT (consF (varF 2) nilF) (ptE ns place (some (.p (.int c))) none none) S = some (.p (.int (if c < 0 then -c else c)), S) by simp, Option.bind_some, e_bin1, e_bin, e_con, Option.bind_some, e_bin1, e_con, Option.bind_some, e_bin2, hq, Option.bind_some, e_bin2, e_ge, Option.bind_some, e_cons1, e_nil, Option.map_some, e_cons2, Option.bind_some, e_argK, e_intB]
  have cm : CMul ((if c < 0 then -c else c) % big5) b := cmul_r (by omega) (by omega)
  refine ⟨(if c < 0 then -c else c) % big5 * b, Int.mul_nonneg (Int.emod_nonneg _ (fun e => by have := big_pos; omega)) (by omega), ?_⟩
  rw [s_set, e_bin, h1, Option.bind_some, e_bin1, h2, Option.bind_some, e_bin2, e_mulI cm, Option.bind_some, s_set1, gc_p, Option.map_some, s_set2, List.take_length]
  rfl
theorem lst3 {fa fb fc : EF} {env : Pv.Env} {S : Sto} {a b c : Int} (ha : fa env S = some (.p (.int a), S)) (hb : fb env S = some (.p (.int b), S)) (hc : fc env S = some (.p (.int c), S)) : lstF (consF fa (consF fb (consF fc nilF))) env S = some (.loc S.length, S ++ [pot3 a b c]) := by
  rw [e_lst, e_cons, ha, Option.bind_some, e_cons1, e_cons, hb, Option.bind_some, e_cons1, e_cons, hc, Option.bind_some, e_cons1, e_nil, Option.map_some, e_cons2, Option.map_some, e_cons2, Option.map_some, e_cons2, Option.bind_some, e_lstK (ds := [.int a, .int b, .int c]) rfl (by simp)]
theorem pot_sum (S : Sto) (ns : List Int) (place : Int) (c o s : Int) (h0 : 0 ≤ place) (hp : place ≤ 10) : argF intT (consF (binF addT (binF addT (binF mulI (varF 4) (conF (.int 83383))) (binF mulI (binF mulI (conF (.int 12301)) (varF 1)) (varF 1))) (conF (.int 3571))) nilF) (ptE ns place (some (.p (.int c))) (some (.p (.int o))) (some (.p (.int s)))) S = some (.p (.int (s * 83383 + 12301 * place * place + 3571)), S) := by
  have c1 : ∀ i, CMul i 83383 := fun i => cmul_r (by decide) (by decide)
  have c2 : ∀ i, CMul 12301 i := fun i => cmul_l (by decide) (by decide)
  have c3 : ∀ i, CMul i place := fun i => cmul_r (by omega) (by omega)
  simp [c1, c2, c3]
theorem r_pot (S : Sto) (ns : List Int) (place : Nat) (hp : place ≤ 10) : ∃ p, m__law_pot [.ro (ns.map PyData.int), .p (.int place)] S = some (.loc S.length, S ++ [p]) ∧ PotOk 0 p := by
  obtain ⟨c, b1⟩ := pot_cell S ns place hp
  obtain ⟨o, ho, b2⟩ := pot_own S ns place c S.length
  have b3 : setS 4 (binF modI (argF intT (consF (varF 2) nilF)) (conF (.int 2305843009213693951))) S.length (ptE ns place (some (.p (.int c))) (some (.p (.int o))) none) S = some (.nx, ptE ns place (some (.p (.int c))) (some (.p (.int o))) (some (.p (.int (c % 2305843009213693951)))), S) := by
    have hm : modI (.p (.int c)) (.p (.int 2305843009213693951)) S = some (.p (.int (c % 2305843009213693951)), S) := e_mod (by decide)
    rw [s_set, e_bin, show argF intT (consF (varF 2) nilF) (ptE ns place (some (.p (.int c))) (some (.p (.int o))) none) S = some (.p (.int c), S) by simp, Option.bind_some, e_bin1, e_con, Option.bind_some, e_bin2, hm, Option.bind_some, s_set1, gc_p, Option.map_some, s_set2, List.take_length]
    rfl
  have b4 : retS (lstF (consF (varF 3) (consF (binF modI (argF intT (consF (binF addT (binF addT (binF mulI (varF 4) (conF (.int 83383))) (binF mulI (binF mulI (conF (.int 12301)) (varF 1)) (varF 1))) (conF (.int 3571))) nilF)) (conF (.int 2305843009213693921))) (consF (conF (.int 0)) nilF)))) S.length (ptE ns place (some (.p (.int c))) (some (.p (.int o))) (some (.p (.int (c % 2305843009213693951))))) S
      = some (.rt (.loc S.length), ptE ns place (some (.p (.int c))) (some (.p (.int o))) (some (.p (.int (c % 2305843009213693951)))), S ++ [pot3 o ((c % 2305843009213693951 * 83383 + 12301 * place * place + 3571) % 2305843009213693921) 0]) := by
    have hm : ∀ x, modI (.p (.int x)) (.p (.int 2305843009213693921)) S = some (.p (.int (x % 2305843009213693921)), S) := fun x => e_mod (by decide)
    refine ret_go (lst3 (by rw [e_var]; rfl) ?_ (by rw [e_con]))
    rw [e_bin, pot_sum S ns place c o _ (by omega) (by omega), Option.bind_some, e_bin1, e_con, Option.bind_some, e_bin2, hm]
  refine ⟨_, m_ret (show seqS _ (seqS _ (seqS _ _)) _ _ _ = _ from seq_go b1 (seq_go b2 (seq_go b3 b4))) (gc_new rfl), o, _, 0, rfl, ho, Int.emod_nonneg _ (by decide), Int.emod_lt_of_pos _ (by decide), Int.le_refl _, Int.le_refl _⟩
/-- numbers drawn one by one in a comprehension over range(n): what each is, is told by f -/
theorem p_row {k u : Int} {C p : O} (h : PotOk k p) (R : Sto) (hk : k ≤ 800000) (hu : 0 < u) (hu2 : u < 2000000) (n : Nat) (hn : n ≤ 1000) (P : Int → Prop) {fe : EF} {env : Pv.Env} {i : Nat} {fA : AF} {S : Sto}
    (hi : fA env S = some ([.p (.int (n : Int))], C :: p :: R))
    (hf : ∀ (p p' : O) (R' : Sto) (d : Int) (z : D), m__law_take [.loc 1, .p (.int u)] (C :: p :: (R ++ R')) = some (.p (.int d), C :: p' :: (R ++ R')) → 0 ≤ d → d < u → ∃ y, P y ∧ fe ((env.set i none).set i (some (.p z))) (C :: p :: (R ++ R')) = some (.p (.int y), C :: p' :: (R ++ R'))) :
    ∃ (p' : O) (os : List Int), PotOk (k + n) p' ∧ os.length = n ∧ (∀ y ∈ os, P y) ∧ lcF (range1I fA) (nameG i) yesT fe [i] env S = some (.loc (R.length + 2), C :: p' :: (R ++ [.lst (os.map PyData.int)])) := by
  obtain ⟨out, S', e, ⟨p', os, rfl, rfl, hp, ho⟩, hlen⟩ := lc_relN (gf := nameG i) (ft := yesT) (fe := fe) (m := R.length + 2) (gd := []) (env := env.set i none)
    (fun acc S => ∃ (p' : O) (os : List Int), S = C :: p' :: R ∧ acc = os.map PyData.int ∧ PotOk (k + os.length) p' ∧ ∀ f ∈ os, P f) (fun a S ⟨p', os, e, _⟩ => ⟨by rw [e]; rfl, gd_nil⟩) (rangeL 0 n) [] (C :: p :: R) (by rw [rangeL_len]; simp; omega) ⟨p, [], rfl, rfl, by simpa using h, by simp⟩ (fun z acc S hz hacc ⟨p1, os, e1, e2, h5, h6⟩ => by
      subst e1 e2
      rw [List.length_map] at hacc
      obtain ⟨p2, d, e3, h7, h8, h9⟩ := p_take (C := C) (R := R ++ [.lst (os.map PyData.int)]) (u := u) h5 (by omega) hu hu2
      obtain ⟨y, hy, e4⟩ := hf p1 p2 [.lst (os.map PyData.int)] d z e3 h8 h9
      refine ⟨_, .int y, C :: p2 :: R, g_name, e_yes, e4, p2, os ++ [y], rfl, by simp, ?_, ?_⟩
      · have : k + ((os ++ [y]).length : Nat) = k + (os.length : Nat) + 1 := by simp; omega
        rw [this]; exact h7
      · intro f hf
        rcases List.mem_append.mp hf with hf | hf
        · exact h6 f hf
        · rw [List.mem_singleton.mp hf]; exact hy)
  rw [List.length_map, rangeL_len] at hlen
  simp only [List.length_nil, Nat.zero_add] at hlen
  refine ⟨p', os, by rw [← hlen]; exact hp, hlen, ho, ?_⟩
  rw [e_lc, i_range1 hi (by omega), Option.bind_some, e_lc1 (wipe1 env i ▸ e)]
  simp
/-- numbers drawn one by one for the items of a list -/
theorem p_rowL {k u : Int} {C p : O} (h : PotOk k p) (R : Sto) (hk : k ≤ 800000) (hu : 0 < u) (hu2 : u < 2000000) (ns : List Int) (hn : ns.length ≤ 1000) (P : Int → Prop) {fe : EF} {env : Pv.Env} {i j : Nat} {fA : EF} {S : Sto}
    (hi : fA env S = some (.loc (j + 2), C :: p :: R)) (hj : R[j]? = some (.lst (ns.map PyData.int)))
    (hf : ∀ (p p' : O) (R' : Sto) (d : Int) (z : D), m__law_take [.loc 1, .p (.int u)] (C :: p :: (R ++ R')) = some (.p (.int d), C :: p' :: (R ++ R')) → 0 ≤ d → d < u → ∃ y, P y ∧ fe ((env.set i none).set i (some (.p z))) (C :: p :: (R ++ R')) = some (.p (.int y), C :: p' :: (R ++ R'))) :
    ∃ (p' : O) (os : List Int), PotOk (k + ns.length) p' ∧ os.length = ns.length ∧ (∀ y ∈ os, P y) ∧ lcF (lstI fA) (nameG i) yesT fe [i] env S = some (.loc (R.length + 2), C :: p' :: (R ++ [.lst (os.map PyData.int)])) := by
  obtain ⟨out, S', e, ⟨p', os, rfl, rfl, hp, ho⟩, hlen⟩ := lc_relN (gf := nameG i) (ft := yesT) (fe := fe) (m := R.length + 2) (gd := [(j + 2, .lst (ns.map PyData.int))]) (env := env.set i none)
    (fun acc S => ∃ (p' : O) (os : List Int), S = C :: p' :: R ∧ acc = os.map PyData.int ∧ PotOk (k + os.length) p' ∧ ∀ f ∈ os, P f) (fun a S ⟨p', os, e, _⟩ => ⟨by rw [e]; rfl, fun q hq => by
      have : q = (j + 2, O.lst (ns.map PyData.int)) := by simpa using hq
      subst this; rw [e]; exact hj⟩) (ns.map PyData.int) [] (C :: p :: R) (by simp; omega) ⟨p, [], rfl, rfl, by simpa using h, by simp⟩ (fun z acc S hz hacc ⟨p1, os, e1, e2, h5, h6⟩ => by
      subst e1 e2
      rw [List.length_map] at hacc
      obtain ⟨p2, d, e3, h7, h8, h9⟩ := p_take (C := C) (R := R ++ [.lst (os.map PyData.int)]) (u := u) h5 (by omega) hu hu2
      obtain ⟨y, hy, e4⟩ := hf p1 p2 [.lst (os.map PyData.int)] d z e3 h8 h9
      refine ⟨_, .int y, C :: p2 :: R, g_name, e_yes, e4, p2, os ++ [y], rfl, by simp, ?_, ?_⟩
      · have : k + ((os ++ [y]).length : Nat) = k + (os.length : Nat) + 1 := by simp; omega
        rw [this]; exact h7
      · intro f hf
        rcases List.mem_append.mp hf with hf | hf
        · exact h6 f hf
        · rw [List.mem_singleton.mp hf]; exact hy)
  rw [List.length_map] at hlen
  simp only [List.length_nil, Nat.zero_add, List.length_map] at hlen
  refine ⟨p', os, by rw [← hlen]; exact hp, hlen, ho, ?_⟩
  have hj' : (C :: p :: R)[j + 2]? = some (.lst (ns.map PyData.int)) := hj
  rw [e_lc, i_lst, hi, Option.bind_some, i_lstK hj', Option.bind_some, e_lc1 (wipe1 env i ▸ e)]
  simp
theorem rgD_nat (c : Nat) : rgD 0 (c : Int) = ((List.range c).map fun i : Nat => (i : Int)).map PyData.int := by
  unfold rgD
  rw [List.map_map, Int.sub_zero, Int.toNat_natCast]
  refine List.map_congr_left fun i _ => ?_
  show PyData.int (0 + (i : Int)) = PyData.int (i : Int)
  rw [Int.zero_add]
end G50
set_option maxHeartbeats 1000000
/-! R50a: the looks at curves, servers, traffic. -/
namespace G50
open PySem PySem.Spec PyProof.Rows L2 Pv
abbrev tI (ns : List Int) : D := .tuple (ns.map PyData.int)
/-- traffic that may be looked at -/
structure Tr (fs : List Int) : Prop where
  len : fs.length ≤ 500
  rg : ∀ f ∈ fs, 0 ≤ f ∧ f ≤ 1000
theorem r_istraffic (S : Sto) (fs : List Int) (F : Tr fs) : m_is_traffic [.p (tI fs)] S = some (.p (.bool true), S) := by
  have hl := F.len
  have hc := lcF_all (itf := tupI (varF 0)) (gf := nameG 1) (fe := callF 3 m_is_int (consF (varF 1) (consF (conF (.int 0)) (consF (conF (.int 1000)) nilF)))) (vs := [1]) (env := [some (.p (tI fs)), none]) (S := S) (S' := S) (gd := []) PyData.int (fun _ => .bool true) fs (by simp) gd_nil (by omega) (fun f hf acc => by
    refine ⟨[some (.p (tI fs)), some (.p (.int f))], [], by simp [wipeE], ?_⟩
    have e := isint_b f 0 1000 (F.rg f hf).1 (F.rg f hf).2 (S ++ [.lst acc])
    simp [e])
  have em : fs.map (fun _ => PyData.bool true) = (List.replicate fs.length true).map PyData.bool := by rw [List.map_const', List.map_replicate]
  rw [em] at hc
  have q2 := e_allL (b := false) (S := S ++ [.lst ((List.replicate fs.length true).map PyData.bool)]) (i := S.length) (bs := List.replicate fs.length true) (by simp)
  rw [if_neg Bool.false_ne_true, all_true] at q2
  have hl' : ((fs.length : Nat) : Int) ≤ 500 := by omega
  refine m_ret (r := .p (.bool true)) (env' := [some (.p (tI fs)), none]) (S' := S ++ [.lst ((List.replicate fs.length true).map PyData.bool)]) ?_ (by simp)
  refine (ret_go ?_ : retS _ _ [some (.p (tI fs)), none] S = _)
  have hall : argF (allT false) (consF (lcF (tupI (varF 0)) (nameG 1) yesT (callF 3 m_is_int (consF (varF 1) (consF (conF (.int 0)) (consF (conF (.int 1000)) nilF)))) [1]) nilF) [some (.p (tI fs)), none] S = some (.p (.bool true), S ++ [.lst ((List.replicate fs.length true).map PyData.bool)]) := by
    rw [e_arg, e_cons, hc]
    simp only [Option.bind_some, e_cons1, e_nil, Option.map_some, e_cons2, e_argK]
    exact q2
  rw [e_and, show isiF "tuple" (varF 0) [some (.p (tI fs)), none] S = some (.p (.bool true), S) by simp, Option.bind_some, e_and1 rfl, e_and, show binF leI (argF lenT (consF (varF 0) nilF)) (conF (.int 500)) [some (.p (tI fs)), none] S = some (.p (.bool true), S) by simp [hl'], Option.bind_some, e_and1 rfl]
  exact hall
theorem r_traffic (S : Sto) (fs : List Int) (F : Tr fs) : m_look_at_traffic [.p (tI fs)] S = some (.p .none, S) := by
  have e := r_istraffic (S.take S.length) fs F
  rw [List.take_length] at e
  have := m_end (n := 1) (b := b_look_at_traffic) (ts := [.p (tI fs)]) (S := S) (env' := [some (.p (tI fs))]) (S' := S) (if_nx (S' := S) (by simp [e]) (by rw [List.take_length]; rfl))
  rw [List.take_length] at this
  exact this
abbrev prD (a b : Int) : D := .tuple [.int a, .int b]
theorem r_isserver (S : Sto) (r l : Int) (h : 0 ≤ r ∧ r ≤ 100) (h2 : 0 ≤ l ∧ l ≤ 200) : m_is_server [.p (prD r l)] S = some (.p (.bool true), S) := by
  have e1 := isint_b r 0 100 h.1 h.2 S
  have e2 := isint_b l 0 200 h2.1 h2.2 S
  have b1 : ifS (orT (notT (asT (isiF "tuple" (varF 0)))) (asT (binF (eqT true) (argF lenT (consF (varF 0) nilF)) (conF (.int 2))))) (retS (conF (.bool false))) nextS S.length [some (.p (prD r l))] S = some (.nx, [some (.p (prD r l))], S) := if_nx (S' := S) (by simp) (by rw [List.take_length])
  exact m_ret (show seqS _ _ _ _ _ = _ from seq_go b1 (ret_go (v := .p (.bool true)) (S' := S) (by simp [e1, e2]))) (by simp)
theorem r_server (S : Sto) (r l : Int) (h : 0 ≤ r ∧ r ≤ 100) (h2 : 0 ≤ l ∧ l ≤ 200) : m_look_at_server [.p (prD r l)] S = some (.p .none, S) := by
  have e := r_isserver S r l h h2
  have := m_end (n := 1) (b := b_look_at_server) (ts := [.p (prD r l)]) (S := S) (env' := [some (.p (prD r l))]) (S' := S) (if_nx (S' := S) (by simp [e]) (by rw [List.take_length]; rfl))
  rw [List.take_length] at this
  exact this
/-- a curve of one pair -/
abbrev cvD (b r : Int) : D := .tuple [prD b r]
theorem r_iscurve (S : Sto) (b r : Int) (h : 0 ≤ b ∧ b ≤ 400) (h2 : 0 ≤ r ∧ r ≤ 100) : m_is_curve [.p (cvD b r)] S = some (.p (.bool true), S) := by
  have e1 := isint_b b 0 400 h.1 h.2 S
  have e2 := isint_b r 0 100 h2.1 h2.2 S
  have tl : S.take S.length = S := List.take_length
  have key : Rn (b_is_curve S.length [some (.p (cvD b r)), none, none, none] S) fun o e s => o = .rt (.p (.bool true)) ∧ ∃ T, s = S ++ T := by
    unfold b_is_curve
    refine rn_seq (env' := [some (.p (cvD b r)), none, none, none]) (S' := S) (if_nx (S' := S) (by simp) (by rw [tl])) ?_
    refine rn_seq2 (rn_forT (ys := [()]) (emb := fun _ => prD b r) (S1 := S) (gd := []) (by simp) (fun i e s => s = S ∧ ∃ o : Option D, e = [some (.p (cvD b r)), o.map T.p, none, none]) (fun _ _ _ _ => gd_nil) ⟨rfl, none, rfl⟩ (fun i y e s _ ⟨hs, o, he⟩ => ?_) (fun e s ⟨hs, o, he⟩ => ?_))
    · subst hs he
      refine ⟨[some (.p (cvD b r)), some (.p (prD b r)), none, none], s, by simp, ?_⟩
      refine rn_seq (env' := [some (.p (cvD b r)), some (.p (prD b r)), none, none]) (S' := s) (if_nx (S' := s) (by simp) (by rw [List.take_length])) (rn_nx (if_nx (S' := s) (by simp [e1, e2]) (by rw [List.take_length])) ?_)
      exact ⟨List.take_length, some (prD b r), by simp [forget]⟩
    · subst hs he
      simp only [List.take_length]
      have hc := lcF_all (itf := zipI (consF (varF 0) (consF (sliceF (varF 0) (someO (conF (.int 1))) noO) nilF))) (gf := tupG 2 (consG (nameG 2) (consG (nameG 3) nilG))) (fe := andF (binF ltI (binF ixT (varF 2) (conF (.int 0))) (binF ixT (varF 3) (conF (.int 0)))) (binF gtI (binF ixT (varF 2) (conF (.int 1))) (binF ixT (varF 3) (conF (.int 1))))) (vs := [2, 3]) (env := [some (.p (cvD b r)), o.map T.p, none, none]) (S := s) (S' := s) (gd := []) (α := Unit) (fun _ => .none) (fun _ => .none) [] (by
        have c : cutL [prD b r] (some 1) none = [] := cut_from [prD b r] 1 (by simp)
        simp [sliceF, someO, noO, slT, c, zipD]) gd_nil (by simp) (fun a ha => by simp at ha)
      have q2 := e_allL (b := false) (S := s ++ [.lst (([] : List Bool).map PyData.bool)]) (i := s.length) (bs := []) (by simp)
      refine rn_ret (v := .p (.bool true)) (S' := s ++ [.lst []]) ?_ ⟨rfl, [.lst []], rfl⟩
      simp only [forget, List.map_cons, List.map_nil, keepD, keepP, keep0]
      rw [e_arg, e_cons, hc]
      simp only [Option.bind_some, e_cons1, e_nil, Option.map_some, e_cons2, e_argK, List.map_nil]
      exact q2
  obtain ⟨o, e, s, h1, rfl, T, rfl⟩ := key
  exact m_ret h1 (by simp)
theorem r_curve (S : Sto) (b r : Int) (h : 0 ≤ b ∧ b ≤ 400) (h2 : 0 ≤ r ∧ r ≤ 100) : m_look_at_curve [.p (cvD b r)] S = some (.p .none, S) := by
  have e := r_iscurve S b r h h2
  have := m_end (n := 1) (b := b_look_at_curve) (ts := [.p (cvD b r)]) (S := S) (env' := [some (.p (cvD b r))]) (S' := S) (if_nx (S' := S) (by simp [e]) (by rw [List.take_length]; rfl))
  rw [List.take_length] at this
  exact this
end G50
set_option maxHeartbeats 1000000
/-! L50a: sums of windows, the least burst, in plain numbers. -/
namespace G50
/-- the sum of the first i, less r each -/
def pf (fs : List Int) (i : Nat) : Int := (fs.take i).sum
def Fr (fs : List Int) (r : Int) (i : Nat) : Int := pf fs i - r * i
/-- the sum of m from a on -/
def ws (fs : List Int) (a m : Nat) : Int := ((fs.drop a).take m).sum
theorem sum_app' (l m : List Int) : (l ++ m).sum = l.sum + m.sum := by
  induction l with
  | nil => simp
  | cons x l ih => simp [ih]; omega
theorem ws_pf (fs : List Int) (a m : Nat) : ws fs a m = pf fs (a + m) - pf fs a := by
  unfold ws pf
  rw [List.take_add, sum_app']
  omega
theorem pf_succ {fs : List Int} {i : Nat} {x : Int} (h : fs[i]? = some x) : pf fs (i + 1) = pf fs i + x := by
  unfold pf
  rw [List.take_succ, h, sum_app']
  simp
theorem ws_succ {fs : List Int} {a m : Nat} {x : Int} (h : fs[a + m]? = some x) : ws fs a (m + 1) = ws fs a m + x := by
  rw [ws_pf, ws_pf, ← Nat.add_assoc, pf_succ h]; omega
theorem pf_len (fs : List Int) : pf fs fs.length = fs.sum := by unfold pf; rw [List.take_length]
theorem pf_0 (fs : List Int) : pf fs 0 = 0 := rfl
theorem pf_mono {fs : List Int} (h : ∀ f ∈ fs, 0 ≤ f) {a b : Nat} (hab : a ≤ b) : pf fs a ≤ pf fs b := by
  obtain ⟨m, rfl⟩ := Nat.exists_eq_add_of_le hab
  have e := ws_pf fs a m
  have : 0 ≤ ws fs a m := by
    unfold ws
    have hh : ∀ f ∈ (fs.drop a).take m, 0 ≤ f := fun f hf => h f (List.mem_of_mem_drop (List.mem_of_mem_take hf))
    generalize (fs.drop a).take m = l at hh
    induction l with
    | nil => simp
    | cons x l ih =>
      have := hh x List.mem_cons_self
      have := ih fun f hf => hh f (List.mem_cons_of_mem _ hf)
      simp; omega
  omega
/-- b is the least burst of traffic at that rate -/
structure IsB (fs : List Int) (r b : Int) : Prop where
  le : ∀ a c, a ≤ c → c ≤ fs.length → Fr fs r c - Fr fs r a ≤ b
  at_ : ∃ a c, a ≤ c ∧ c ≤ fs.length ∧ Fr fs r c - Fr fs r a = b
theorem IsB.uniq {fs : List Int} {r b b' : Int} (h : IsB fs r b) (h' : IsB fs r b') : b = b' := by
  obtain ⟨a, c, h1, h2, h3⟩ := h.at_
  obtain ⟨a', c', h1', h2', h3'⟩ := h'.at_
  have := h.le a' c' h1' h2'
  have := h'.le a c h1 h2
  omega
theorem IsB.nonneg {fs : List Int} {r b : Int} (h : IsB fs r b) : 0 ≤ b := by
  have := h.le 0 0 (Nat.le_refl _) (Nat.zero_le _)
  omega
theorem IsB.win {fs : List Int} {r b : Int} (h : IsB fs r b) {a m : Nat} (hl : a + m ≤ fs.length) : ws fs a m ≤ b + r * m := by
  have := h.le a (a + m) (by omega) hl
  have e := ws_pf fs a m
  unfold Fr at this
  have : r * ((a + m : Nat) : Int) = r * a + r * m := by rw [Int.natCast_add, Int.mul_add]
  omega
theorem IsB.win_at {fs : List Int} {r b : Int} (h : IsB fs r b) : ∃ a m, a + m ≤ fs.length ∧ ws fs a m = b + r * m := by
  obtain ⟨a, c, h1, h2, h3⟩ := h.at_
  obtain ⟨m, rfl⟩ := Nat.exists_eq_add_of_le h1
  refine ⟨a, m, h2, ?_⟩
  rw [ws_pf]
  unfold Fr at h3
  have : r * ((a + m : Nat) : Int) = r * a + r * m := by rw [Int.natCast_add, Int.mul_add]
  omega
theorem isB_of {fs : List Int} {r b : Int} (h1 : ∀ a m, a + m ≤ fs.length → ws fs a m - r * m ≤ b) (h2 : ∃ a m, a + m ≤ fs.length ∧ ws fs a m - r * m = b) : IsB fs r b := by
  have key : ∀ a m : Nat, ws fs a m - r * m = Fr fs r (a + m) - Fr fs r a := fun a m => by
    rw [ws_pf]; unfold Fr
    have : r * ((a + m : Nat) : Int) = r * a + r * m := by rw [Int.natCast_add, Int.mul_add]
    omega
  constructor
  · intro a c hac hc
    obtain ⟨m, rfl⟩ := Nat.exists_eq_add_of_le hac
    rw [← key]; exact h1 a m hc
  · obtain ⟨a, m, hl, e⟩ := h2
    exact ⟨a, a + m, by omega, hl, by rw [← key]; exact e⟩
/-! Kadane -/
def kad (r : Int) (s : Int × Int) (x : Int) : Int × Int := (if s.1 < (if 0 < s.2 then s.2 else 0) + x - r then (if 0 < s.2 then s.2 else 0) + x - r else s.1, (if 0 < s.2 then s.2 else 0) + x - r)
/-- (best, here) behind the first i -/
structure KadI (fs : List Int) (r : Int) (i : Nat) (s : Int × Int) : Prop where
  le : ∀ a c, a ≤ c → c ≤ i → Fr fs r c - Fr fs r a ≤ s.1
  at_ : ∃ a c, a ≤ c ∧ c ≤ i ∧ Fr fs r c - Fr fs r a = s.1
  hle : ∀ a, a ≤ i → Fr fs r i - Fr fs r a ≤ (if 0 < s.2 then s.2 else 0)
  hat : ∃ a, a ≤ i ∧ Fr fs r i - Fr fs r a = (if 0 < s.2 then s.2 else 0)
theorem kad_0 (fs : List Int) (r : Int) : KadI fs r 0 (0, 0) :=
  ⟨fun a c h1 h2 => by have : a = c := by omega
                       subst this; simp, ⟨0, 0, by omega, by omega, by simp⟩, fun a h => by have : a = 0 := by omega
                                                                                            subst this; simp, ⟨0, by omega, by simp⟩⟩
theorem Fr_succ {fs : List Int} {r : Int} {i : Nat} {x : Int} (h : fs[i]? = some x) : Fr fs r (i + 1) = Fr fs r i + x - r := by
  unfold Fr
  rw [pf_succ h, Int.natCast_add, Int.mul_add]
  simp; omega
theorem kad_step {fs : List Int} {r : Int} {i : Nat} {s : Int × Int} {x : Int} (hx : fs[i]? = some x) (h : KadI fs r i s) : KadI fs r (i + 1) (kad r s x) := by
  have e := Fr_succ (r := r) hx
  obtain ⟨b, t⟩ := s
  obtain ⟨hle0, hat0, hh, ha, ha1, ha2⟩ := h
  have hge : 0 ≤ (if 0 < t then t else 0) := by split <;> omega
  have h0 : 0 ≤ b := by have := hle0 0 0 (by omega) (by omega); simp at this; exact this
  have hk : kad r (b, t) x = (if b < (if 0 < t then t else 0) + x - r then (if 0 < t then t else 0) + x - r else b, (if 0 < t then t else 0) + x - r) := rfl
  rw [hk]
  simp only at hle0 hat0 hh ha2
  generalize (if 0 < t then t else 0) = g at *
  refine ⟨fun a c h1 h2 => ?_, ?_, fun a h1 => ?_, ?_⟩
  · simp only
    by_cases hc : c ≤ i
    · have := hle0 a c h1 hc
      split <;> omega
    · have hc' : c = i + 1 := by omega
      subst hc'
      by_cases ha' : a ≤ i
      · have := hh a ha'
        split <;> omega
      · have : a = i + 1 := by omega
        subst this
        split <;> omega
  · by_cases hb : b < g + x - r
    · exact ⟨ha, i + 1, by omega, by omega, by simp only; rw [if_pos hb]; omega⟩
    · obtain ⟨a, c, q1, q2, q3⟩ := hat0
      exact ⟨a, c, q1, by omega, by simp only; rw [if_neg hb]; exact q3⟩
  · simp only
    by_cases ha' : a ≤ i
    · have := hh a ha'
      split <;> omega
    · have : a = i + 1 := by omega
      subst this
      split <;> omega
  · by_cases hp : 0 < g + x - r
    · exact ⟨ha, by omega, by simp only; rw [if_pos hp]; omega⟩
    · exact ⟨i + 1, by omega, by simp only; rw [if_neg hp]; omega⟩
theorem kad_ok {fs : List Int} {r : Int} {s : Int × Int} (h : KadI fs r fs.length s) : IsB fs r s.1 := ⟨h.le, h.at_⟩
/-! turned about -/
theorem pf_rev (fs : List Int) {i : Nat} (h : i ≤ fs.length) : pf fs.reverse i = pf fs fs.length - pf fs (fs.length - i) := by
  unfold pf
  rw [List.take_reverse, List.take_length]
  have e : (fs.drop (fs.length - i)).reverse.sum = (fs.drop (fs.length - i)).sum := by
    generalize fs.drop (fs.length - i) = l
    induction l with
    | nil => rfl
    | cons x l ih => rw [List.reverse_cons, sum_app', ih]; simp; omega
  have e2 : fs.sum = (fs.take (fs.length - i)).sum + (fs.drop (fs.length - i)).sum := by rw [← sum_app', List.take_append_drop]
  rw [e]
  omega
theorem isB_rev {fs : List Int} {r b : Int} (h : IsB fs r b) : IsB fs.reverse r b := by
  have key : ∀ i, i ≤ fs.length → Fr fs.reverse r i = Fr fs r fs.length - Fr fs r (fs.length - i) := fun i hi => by
    unfold Fr
    rw [pf_rev fs hi]
    have : r * ((fs.length - i : Nat) : Int) = r * (fs.length : Int) - r * i := by rw [Int.ofNat_sub hi, Int.mul_sub]
    omega
  constructor
  · intro a c hac hc
    rw [List.length_reverse] at hc
    rw [key a (by omega), key c hc]
    have := h.le (fs.length - c) (fs.length - a) (by omega) (by omega)
    omega
  · obtain ⟨a, c, h1, h2, h3⟩ := h.at_
    refine ⟨fs.length - c, fs.length - a, by omega, by rw [List.length_reverse]; omega, ?_⟩
    rw [key _ (by omega), key _ (by omega), show fs.length - (fs.length - c) = c by omega, show fs.length - (fs.length - a) = a by omega]
    omega
end G50
set_option maxHeartbeats 1000000
/-! R50b: the runs of least_burst, told_at and their like. -/
namespace G50
open PySem PySem.Spec PyProof.Rows L2 Pv
theorem of_key {n : Nat} {b : SF} {ts : List T} {S : Sto} {P : D → Prop} (h : Rn (b S.length (ts.map some ++ List.replicate (n - ts.length) none) S) fun o e s => ∃ d, o = .rt (.p d) ∧ P d ∧ ∃ T, s = S ++ T) : ∃ d, P d ∧ defF n b ts S = some (.p d, S) := by
  obtain ⟨o, e, s, h1, d, rfl, hp, T, rfl⟩ := h
  exact ⟨d, hp, m_ret h1 (by simp)⟩
theorem r_least (S : Sto) (fs : List Int) (r : Int) (F : Tr fs) (hr : 0 ≤ r ∧ r ≤ 100) : ∃ b, IsB fs r b ∧ m_least_burst [.p (tI fs), .p (.int r)] S = some (.p (.int b), S) := by
  have a1 := r_traffic S fs F
  have a2 := isint_b r 0 100 hr.1 hr.2 S
  have tl : S.take S.length = S := List.take_length
  obtain ⟨d, ⟨b, rfl, hb⟩, h⟩ : ∃ d, (∃ b, d = PyData.int b ∧ IsB fs r b) ∧ m_least_burst [.p (tI fs), .p (.int r)] S = some (.p d, S) := by
    refine of_key (b := b_least_burst) ?_
    unfold b_least_burst
    refine rn_seq (env' := [some (.p (tI fs)), some (.p (.int r)), none, none, none]) (S' := S) (by simp [a1]) ?_
    refine rn_seq (env' := [some (.p (tI fs)), some (.p (.int r)), none, none, none]) (S' := S) (if_nx (S' := S) (by simp [a2]) (by rw [tl])) ?_
    refine rn_seq (env' := [some (.p (tI fs)), some (.p (.int r)), some (.p (.int 0)), some (.p (.int 0)), none]) (S' := S) (by simp [tupT, allP]) ?_
    refine rn_seq2 (rn_forT (ys := fs) (emb := PyData.int) (S1 := S) (gd := []) (by simp) (fun i e s => s = S ∧ ∃ (b h : Int) (o : Option D), e = [some (.p (tI fs)), some (.p (.int r)), some (.p (.int b)), some (.p (.int h)), o.map T.p] ∧ KadI fs r i (b, h)) (fun _ _ _ _ => gd_nil) ⟨rfl, 0, 0, none, rfl, kad_0 fs r⟩ (fun i x e s hx ⟨hs, b, h, o, he, hk⟩ => ?_) (fun e s ⟨hs, b, h, o, he, hk⟩ => ?_))
    · subst hs he
      have st := kad_step hx hk
      refine ⟨_, _, g_name, ?_⟩
      refine rn_seq (env' := [some (.p (tI fs)), some (.p (.int r)), some (.p (.int b)), some (.p (.int ((if 0 < h then h else 0) + x - r))), some (.p (.int x))]) (S' := s) (by simp) ?_
      refine rn_nx (env' := [some (.p (tI fs)), some (.p (.int r)), some (.p (.int (kad r (b, h) x).1)), some (.p (.int (kad r (b, h) x).2)), some (.p (.int x))]) (S' := s) (by simp [kad]) ?_
      exact ⟨tl, (kad r (b, h) x).1, (kad r (b, h) x).2, some (.int x), by simp [forget], st⟩
    · subst hs he
      exact rn_ret (v := .p (.int b)) (S' := s) (by simp [forget]) ⟨_, rfl, ⟨b, rfl, kad_ok hk⟩, [], by simp⟩
  exact ⟨b, hb, h⟩
def letAt (b r t : Int) : Int := if 0 < t then b + r * t else 0
theorem minI_one (x : Int) : minI [x] = x := rfl
theorem r_at (S : Sto) (b r t : Int) (hr : 0 ≤ r ∧ r ≤ 100) : m_told_at [.p (cvD b r), .p (.int t)] S = some (.p (.int (letAt b r t)), S) := by
  obtain ⟨d, rfl, h⟩ : ∃ d, d = PyData.int (letAt b r t) ∧ m_told_at [.p (cvD b r), .p (.int t)] S = some (.p d, S) := by
    refine of_key (b := b_told_at) ?_
    unfold b_told_at
    by_cases ht : 0 < t
    · have cm : ∀ x, CMul r x := fun x => cmul_l (by omega) (by omega)
      have hc := lcF_all (itf := tupI (varF 0)) (gf := tupG 2 (consG (nameG 2) (consG (nameG 3) nilG))) (fe := binF addT (varF 2) (binF mulI (varF 3) (varF 1))) (vs := [2, 3]) (env := [some (.p (cvD b r)), some (.p (.int t)), none, none]) (S := S) (S' := S) (gd := []) (fun _ : Unit => prD b r) (fun _ => .int (b + r * t)) [()] (by simp) gd_nil (by simp) (fun _ _ acc => ⟨[some (.p (cvD b r)), some (.p (.int t)), some (.p (.int b)), some (.p (.int r))], [], by simp [wipeE], by simp [cm]⟩)
      have q2 := e_minL (S := S ++ [.lst ([b + r * t].map PyData.int)]) (i := S.length) (ns := [b + r * t]) (by simp) (by simp)
      refine rn_ret (v := .p (.int (letAt b r t))) (S' := S ++ [.lst [.int (b + r * t)]]) ?_ ⟨_, rfl, rfl, _, rfl⟩
      show ifF _ _ _ [some (.p (cvD b r)), some (.p (.int t)), none, none] S = _
      rw [e_if, show asT (binF gtI (varF 1) (conF (.int 0))) [some (.p (cvD b r)), some (.p (.int t)), none, none] S = some (true, S) by simp [ht], Option.bind_some, e_if1 rfl, e_arg, e_cons, hc]
      have ea : letAt b r t = b + r * t := if_pos ht
      simp only [Option.bind_some, e_cons1, e_nil, Option.map_some, e_cons2, e_argK, ea]
      exact q2
    · refine rn_ret (v := .p (.int (letAt b r t))) (S' := S) ?_ ⟨_, rfl, rfl, [], by simp⟩
      have ht' : t ≤ 0 := by omega
      have ea : letAt b r t = 0 := if_neg ht
      simp [ea, ht']
  exact h
theorem r_letin (S : Sto) (b r t : Int) (hb : 0 ≤ b ∧ b ≤ 400) (hr : 0 ≤ r ∧ r ≤ 100) (ht : 0 ≤ t ∧ t ≤ 1000000) : m_let_in [.p (cvD b r), .p (.int t)] S = some (.p (.int (letAt b r t)), S) := by
  have a1 := r_curve S b r hb hr
  have a2 := isint_b t 0 1000000 ht.1 ht.2 S
  have a3 := r_at S b r t hr
  have tl : S.take S.length = S := List.take_length
  have p6 : ∀ S, powA (.p (.int 10)) (.p (.int 6)) S = some (.p (.int 1000000), S) := fun S => e_pow (.inl ⟨by decide, by decide, by decide⟩)
  obtain ⟨d, rfl, h⟩ : ∃ d, d = PyData.int (letAt b r t) ∧ m_let_in [.p (cvD b r), .p (.int t)] S = some (.p d, S) := by
    refine of_key (b := b_let_in) ?_
    unfold b_let_in
    refine rn_seq (env' := [some (.p (cvD b r)), some (.p (.int t))]) (S' := S) (by simp [a1]) ?_
    refine rn_seq (env' := [some (.p (cvD b r)), some (.p (.int t))]) (S' := S) (if_nx (S' := S) (by simp [p6, a2]) (by rw [tl])) ?_
    exact rn_ret (v := .p (.int (letAt b r t))) (S' := S) (by simp [a3]) ⟨_, rfl, rfl, [], by simp⟩
  exact h
def sv1 (r l t : Int) : Int := r * (if 0 < t - l then t - l else 0)
theorem r_served (S : Sto) (r l t : Int) (hr : 0 ≤ r ∧ r ≤ 100) : m_told_served [.p (prD r l), .p (.int t)] S = some (.p (.int (sv1 r l t)), S) := by
  have cm : ∀ x, CMul r x := fun x => cmul_l (by omega) (by omega)
  obtain ⟨d, rfl, h⟩ : ∃ d, d = PyData.int (sv1 r l t) ∧ m_told_served [.p (prD r l), .p (.int t)] S = some (.p d, S) := by
    refine of_key (b := b_told_served) ?_
    unfold b_told_served
    exact rn_ret (v := .p (.int (sv1 r l t))) (S' := S) (by simp [cm, sv1]) ⟨_, rfl, rfl, [], by simp⟩
  exact h
theorem r_passed (S : Sto) (r l t : Int) (hr : 0 ≤ r ∧ r ≤ 100) (hl : 0 ≤ l ∧ l ≤ 200) (ht : 0 ≤ t ∧ t ≤ 1000000) : m_passed_on [.p (prD r l), .p (.int t)] S = some (.p (.int (sv1 r l t)), S) := by
  have a1 := r_server S r l hr hl
  have a2 := isint_b t 0 1000000 ht.1 ht.2 S
  have a3 := r_served S r l t hr
  have tl : S.take S.length = S := List.take_length
  have p6 : ∀ S, powA (.p (.int 10)) (.p (.int 6)) S = some (.p (.int 1000000), S) := fun S => e_pow (.inl ⟨by decide, by decide, by decide⟩)
  obtain ⟨d, rfl, h⟩ : ∃ d, d = PyData.int (sv1 r l t) ∧ m_passed_on [.p (prD r l), .p (.int t)] S = some (.p d, S) := by
    refine of_key (b := b_passed_on) ?_
    unfold b_passed_on
    refine rn_seq (env' := [some (.p (prD r l)), some (.p (.int t))]) (S' := S) (by simp [a1]) ?_
    refine rn_seq (env' := [some (.p (prD r l)), some (.p (.int t))]) (S' := S) (if_nx (S' := S) (by simp [p6, a2]) (by rw [tl])) ?_
    exact rn_ret (v := .p (.int (sv1 r l t))) (S' := S) (by simp [a3]) ⟨_, rfl, rfl, [], by simp⟩
  exact h
end G50
set_option maxHeartbeats 1000000
/-! R50c: too_much, fits, shows_fits. -/
namespace G50
open PySem PySem.Spec PyProof.Rows L2 Pv
theorem i_range2 {fA : AF} {env : Pv.Env} {S S' : Sto} {i k : Int} {c : Nat} (h : fA env S = some ([.p (.int i), .p (.int k)], S')) (hc : (c : Int) = k - i) (hi : -1000000 ≤ i ∧ i ≤ 1000000) (hk : -1000000 ≤ k ∧ k ≤ 1000000) : range2I fA env S = some ((List.range c).map fun j : Nat => PyData.int (i + (j : Int)), [], S') := by
  unfold range2I
  rw [h, Option.bind_some]
  simp only
  have s1 : ∀ x : Int, -1000000 ≤ x → x ≤ 1000000 → small62 x = true := fun x h1 h2 => by
    unfold small62
    rw [decide_eq_true (by omega), decide_eq_true (by omega)]; rfl
  rw [if_pos ⟨s1 i hi.1 hi.2, s1 k hk.1 hk.2⟩, ← hc, Int.toNat_natCast]
  rfl
theorem at_nat {fs : List Int} {j : Nat} {x i : Int} (h : fs[j]? = some x) (hi : i = (j : Int)) : atI (fs.map PyData.int) i = some (.int x) := by
  subst hi
  exact atI_nat (by rw [List.getElem?_map, h]; rfl)
theorem range_at {n i y : Nat} (h : (List.range n)[i]? = some y) : y = i ∧ i < n := by
  have h1 := (List.getElem?_eq_some_iff.mp h).1
  rw [List.length_range] at h1
  rw [List.getElem?_range h1] at h
  exact ⟨(Option.some.inj h).symm, h1⟩
/-- what too_much tells -/
def Much (fs : List Int) (b r : Int) (d : D) : Prop := (d = .none ∧ ∀ a m, 1 ≤ m → a + m ≤ fs.length → ws fs a m ≤ b + r * m) ∨ ∃ a m : Nat, d = .tuple [.int (a : Int), .int (m : Int)] ∧ 1 ≤ m ∧ a + m ≤ fs.length ∧ b + r * m < ws fs a m
theorem r_much (S : Sto) (fs : List Int) (b r : Int) (hl : fs.length ≤ 500) (hr : 0 ≤ r ∧ r ≤ 100) : ∃ d, Much fs b r d ∧ m_too_much [.p (cvD b r), .p (tI fs)] S = some (.p d, S) := by
  have tl : S.take S.length = S := List.take_length
  refine of_key (b := b_too_much) ?_
  unfold b_too_much
  refine rn_seq2 (rn_forT (ys := List.range fs.length) (emb := natI) (S1 := S) (gd := []) (i_rangeN (by simp) (by omega)) (fun i e s => s = S ∧ (∃ o2 o3 o4 : Option D, e = [some (.p (cvD b r)), some (.p (tI fs)), o2.map T.p, o3.map T.p, o4.map T.p]) ∧ ∀ a m, a < i → 1 ≤ m → a + m ≤ fs.length → ws fs a m ≤ b + r * m) (fun _ _ _ _ => gd_nil) ⟨rfl, ⟨none, none, none, rfl⟩, fun a m h => absurd h (Nat.not_lt_zero _)⟩ (fun i y e s hy ⟨hs, ⟨o2, o3, o4, he⟩, hw⟩ => ?_) (fun e s ⟨hs, ⟨o2, o3, o4, he⟩, hw⟩ => ?_))
  · subst hs he
    obtain ⟨rfl, hlt⟩ := range_at hy
    refine ⟨[some (.p (cvD b r)), some (.p (tI fs)), some (.p (natI y)), o3.map T.p, o4.map T.p], s, by simp, ?_⟩
    refine rn_seq (env' := [some (.p (cvD b r)), some (.p (tI fs)), some (.p (natI y)), some (.p (.int 0)), o4.map T.p]) (S' := s) (by simp) ?_
    have hN : (((fs.length - y : Nat)) : Int) = ((fs.length : Int) - (y : Int) + 1) - 1 := by omega
    refine rn_forT (ys := List.range (fs.length - y)) (emb := fun j : Nat => PyData.int (1 + (j : Int))) (S1 := s) (gd := []) (i_range2 (S' := s) (by simp [natI]) hN (by omega) (by omega)) (fun j e s' => s' = s ∧ (∃ o4 : Option D, e = [some (.p (cvD b r)), some (.p (tI fs)), some (.p (natI y)), some (.p (.int (ws fs y j))), o4.map T.p]) ∧ ∀ m, 1 ≤ m → m ≤ j → ws fs y m ≤ b + r * m) (fun _ _ _ _ => gd_nil) ⟨rfl, ⟨o4, rfl⟩, fun m h1 h2 => by omega⟩ (fun j z e s' hz ⟨hs, ⟨o4, he⟩, hm⟩ => ?_) (fun e s' ⟨hs, ⟨o4, he⟩, hm⟩ => ?_)
    · subst hs he
      obtain ⟨rfl, hjl⟩ := range_at hz
      obtain ⟨x, hx⟩ : ∃ x, fs[y + z]? = some x := ⟨_, List.getElem?_eq_getElem (by omega)⟩
      have ha := at_nat hx (i := (y : Int) + (1 + (z : Int)) - 1) (by omega)
      have e1 := r_at s' b r (1 + (z : Int)) hr
      have ea : letAt b r (1 + (z : Int)) = b + r * (1 + (z : Int)) := if_pos (by omega)
      rw [ea] at e1
      have hws := ws_succ hx
      refine ⟨[some (.p (cvD b r)), some (.p (tI fs)), some (.p (natI y)), some (.p (.int (ws fs y z))), some (.p (.int (1 + (z : Int))))], s', by simp, ?_⟩
      refine rn_seq (env' := [some (.p (cvD b r)), some (.p (tI fs)), some (.p (natI y)), some (.p (.int (ws fs y (z + 1)))), some (.p (.int (1 + (z : Int))))]) (S' := s') (by rw [hws]; simp [augS, natI, ha, putSlot]) ?_
      refine rn_if (S' := s') (b := decide (b + r * (1 + (z : Int)) < ws fs y (z + 1))) (by simp [e1]) (fun hb => ?_) (fun hb => ?_)
      · rw [List.take_length]
        refine rn_ret (v := .p (.tuple [.int (y : Int), .int ((z + 1 : Nat) : Int)])) (S' := s') (by simp [natI, tupT, allP]; omega) ?_
        exact ⟨_, rfl, .inr ⟨y, z + 1, rfl, by omega, by omega, by have := of_decide_eq_true hb; rw [show ((z + 1 : Nat) : Int) = 1 + (z : Int) by omega]; exact this⟩, [], by simp⟩
      · rw [List.take_length]
        refine rn_nx (env' := [some (.p (cvD b r)), some (.p (tI fs)), some (.p (natI y)), some (.p (.int (ws fs y (z + 1)))), some (.p (.int (1 + (z : Int))))]) (S' := s') rfl ⟨List.take_length, ⟨some (.int (1 + (z : Int))), by simp [forget]⟩, fun m h1 h2 => ?_⟩
        by_cases hm' : m ≤ z
        · exact hm m h1 hm'
        · have : m = z + 1 := by omega
          subst this
          have := of_decide_eq_false hb
          rw [show ((z + 1 : Nat) : Int) = 1 + (z : Int) by omega]; omega
    · subst hs he
      refine ⟨by simp, ⟨some (natI y), some (.int (ws fs y (List.range (fs.length - y)).length)), o4, by simp [forget]⟩, fun a m ha h1 h2 => ?_⟩
      by_cases hay : a < y
      · exact hw a m hay h1 h2
      · have : a = y := by omega
        subst this
        exact hm m h1 (by simp; omega)
  · subst hs he
    exact rn_ret (v := .p .none) (S' := s) (by simp) ⟨_, rfl, .inl ⟨rfl, fun a m hm hl => hw a m (by simp; omega) hm hl⟩, [], by simp⟩
end G50
set_option maxHeartbeats 1000000
/-! R50d: fits, shows_fits, is_bool. -/
namespace G50
open PySem PySem.Spec PyProof.Rows L2 Pv
theorem kit_ss : kitB "str" "str" = some true := by decide +kernel
theorem kit_bb : kitB "bool" "bool" = some true := by decide +kernel
@[simp] theorem e_isi_ss {x : Str} {S : Sto} : isiK "str" (.p (.str x), S) = some (.p (.bool true), S) := by simp only [isiK, tyName, Option.bind_some, kit_ss, Option.map_some]
@[simp] theorem e_isi_bb {x : Bool} {S : Sto} : isiK "bool" (.p (.bool x), S) = some (.p (.bool true), S) := by simp only [isiK, tyName, Option.bind_some, kit_bb, Option.map_some]
theorem dk_str {k : Nat} {x : Str} (h : PyData.strOk x = true) : Dk k (.str x) := ⟨by simp [PyData.canLay0, h], by simp [PyData.depth]⟩
theorem sk_fits : PyData.strOk "fits" = true := by decide +kernel
theorem sk_more : PyData.strOk "more" = true := by decide +kernel
theorem sk_late : PyData.strOk "late" = true := by decide +kernel
@[simp] theorem eqv_boolb (a b : Bool) : PyData.eqv (.bool a) (.bool b) = (a == b) := by simp [PyData.eqv]
@[simp] theorem e_eqB {n x y : Bool} {S : Sto} : eqT n (.p (.bool x)) (.p (.bool y)) S = some (.p (.bool (if n then !(x == y) else (x == y))), S) := by
  rw [e_eq rfl rfl (deep_of (dk_bool x)) (deep_of (dk_bool y)), eqv_boolb]
theorem ff (S : Sto) (n : Bool) : eqT n (.p (.str "fits")) (.p (.str "fits")) S = some (.p (.bool (!n)), S) := eq_same rfl rfl (dk_str sk_fits)
theorem mm (S : Sto) (n : Bool) : eqT n (.p (.str "more")) (.p (.str "more")) S = some (.p (.bool (!n)), S) := eq_same rfl rfl (dk_str sk_more)
@[simp] theorem iN_n : isNone (.p .none) = true := Eq.trans rfl rfl
@[simp] theorem iN_i (i : Int) : isNone (.p (.int i)) = false := Eq.trans rfl rfl
@[simp] theorem iN_t (ds : List D) : isNone (.p (.tuple ds)) = false := Eq.trans rfl rfl
/-- what fits tells -/
def Fits (fs : List Int) (b r B : Int) (d : D) : Prop := (B ≤ b ∧ d = .tuple [.str "fits"]) ∨ (b < B ∧ ∃ a m : Nat, d = .tuple [.str "more", .int (a : Int), .int (m : Int)] ∧ 1 ≤ m ∧ a + m ≤ fs.length ∧ b + r * m < ws fs a m)
theorem much_le {fs : List Int} {b r B : Int} (hB : IsB fs r B) (hb : 0 ≤ b) {d : D} (h : Much fs b r d) : (B ≤ b ∧ d = .none) ∨ (b < B ∧ ∃ a m : Nat, d = .tuple [.int (a : Int), .int (m : Int)] ∧ 1 ≤ m ∧ a + m ≤ fs.length ∧ b + r * m < ws fs a m) := by
  rcases h with ⟨rfl, h⟩ | ⟨a, m, rfl, h1, h2, h3⟩
  · obtain ⟨a, m, hl, e⟩ := hB.win_at
    refine .inl ⟨?_, rfl⟩
    by_cases hm : 1 ≤ m
    · have := h a m hm hl
      omega
    · have : m = 0 := by omega
      subst this
      have : ws fs a 0 = 0 := by simp [ws]
      simp at e
      omega
  · have := hB.win h2
    exact .inr ⟨by omega, a, m, rfl, h1, h2, h3⟩
theorem r_fits (S : Sto) (fs : List Int) (b r B : Int) (F : Tr fs) (hB : IsB fs r B) (hb : 0 ≤ b ∧ b ≤ 400) (hr : 0 ≤ r ∧ r ≤ 100) : ∃ d, Fits fs b r B d ∧ m_fits [.p (cvD b r), .p (tI fs)] S = some (.p d, S) := by
  have a1 := r_curve S b r hb hr
  have a2 := r_traffic S fs F
  obtain ⟨d, hd, a3⟩ := r_much S fs b r F.len hr
  have tl : S.take S.length = S := List.take_length
  refine of_key (b := b_fits) ?_
  unfold b_fits
  refine rn_seq (env' := [some (.p (cvD b r)), some (.p (tI fs)), none]) (S' := S) (by simp -implicitDefEqProofs [a1]) ?_
  refine rn_seq (env' := [some (.p (cvD b r)), some (.p (tI fs)), none]) (S' := S) (by simp -implicitDefEqProofs [a2]) ?_
  refine rn_seq (env' := [some (.p (cvD b r)), some (.p (tI fs)), some (.p d)]) (S' := S) (by simp -implicitDefEqProofs [a3]) ?_
  rcases much_le hB hb.1 hd with ⟨h1, rfl⟩ | ⟨h1, a, m, rfl, h2, h3, h4⟩
  · exact rn_ret (v := .p (.tuple [.str "fits"])) (S' := S) (by simp -implicitDefEqProofs [tupT, allP]) ⟨_, rfl, .inl ⟨h1, rfl⟩, [], by simp⟩
  · exact rn_ret (v := .p (.tuple [.str "more", .int (a : Int), .int (m : Int)])) (S' := S) (by simp -implicitDefEqProofs [tupT, allP]) ⟨_, rfl, .inr ⟨h1, a, m, rfl, h2, h3, h4⟩, [], by simp⟩
theorem r_shows1 (S : Sto) (fs : List Int) (b r B : Int) (F : Tr fs) (hB : IsB fs r B) (hb : 0 ≤ b ∧ b ≤ 400) (hr : 0 ≤ r ∧ r ≤ 100) : m_shows_fits [.p (cvD b r), .p (tI fs), .p (.tuple [.str "fits"])] S = some (.p (.bool (decide (B ≤ b))), S) := by
  have a1 := r_curve S b r hb hr
  have a2 := r_traffic S fs F
  obtain ⟨d, hd, a3⟩ := r_much S fs b r F.len hr
  have tl : S.take S.length = S := List.take_length
  obtain ⟨d', rfl, h⟩ : ∃ d, d = PyData.bool (decide (B ≤ b)) ∧ m_shows_fits [.p (cvD b r), .p (tI fs), .p (.tuple [.str "fits"])] S = some (.p d, S) := by
    refine of_key (b := b_shows_fits) ?_
    unfold b_shows_fits
    refine rn_seq (env' := [some (.p (cvD b r)), some (.p (tI fs)), some (.p (.tuple [.str "fits"]))]) (S' := S) (by simp -implicitDefEqProofs [a1]) ?_
    refine rn_seq (env' := [some (.p (cvD b r)), some (.p (tI fs)), some (.p (.tuple [.str "fits"]))]) (S' := S) (by simp -implicitDefEqProofs [a2]) ?_
    have hin : ∀ S, inT true (.p (.int 1)) (.p (.tuple [.int 1, .int 3])) S = some (.p (.bool false), S) := fun S => by
      rw [e_int1 (v := .int 1) (ds := [.int 1, .int 3]) (vs := [.int 1, .int 3]) rfl rfl rfl]; rfl
    refine rn_seq (env' := [some (.p (cvD b r)), some (.p (tI fs)), some (.p (.tuple [.str "fits"]))]) (S' := S) (if_nx (S' := S) (by simp -implicitDefEqProofs [tupT, allP, hin]) (by rw [tl])) ?_
    refine rn_seq2 (rn_if1 (S' := S) (by simp) ?_)
    rw [tl]
    rcases much_le hB hb.1 hd with ⟨h1, rfl⟩ | ⟨h1, a, m, rfl, h2, h3, h4⟩
    · exact rn_ret (v := .p (.bool true)) (S' := S) (by simp -implicitDefEqProofs [ff, a3]) ⟨_, rfl, by rw [decide_eq_true h1], [], by simp⟩
    · exact rn_ret (v := .p (.bool false)) (S' := S) (by simp -implicitDefEqProofs [ff, a3]) ⟨_, rfl, by rw [decide_eq_false (by omega)], [], by simp⟩
  exact h
theorem r_shows3 (S : Sto) (fs : List Int) (b r : Int) (F : Tr fs) (hb : 0 ≤ b ∧ b ≤ 400) (hr : 0 ≤ r ∧ r ≤ 100) (a m : Nat) (h2 : 1 ≤ m) (h3 : a + m ≤ fs.length) (h4 : b + r * m < ws fs a m) : m_shows_fits [.p (cvD b r), .p (tI fs), .p (.tuple [.str "more", .int (a : Int), .int (m : Int)])] S = some (.p (.bool true), S) := by
  have hfl := F.len
  have a1 := r_curve S b r hb hr
  have a2 := r_traffic S fs F
  have a4 := isint_b (a : Int) 0 500 (by omega) (by omega) S
  have a5 := isint_b (m : Int) 1 500 (by omega) (by omega) S
  have a6 := r_at S b r (m : Int) hr
  have ea : letAt b r (m : Int) = b + r * m := if_pos (by omega)
  rw [ea] at a6
  have tl : S.take S.length = S := List.take_length
  have cut : cutL (fs.map PyData.int) (some (a : Int)) (some ((a : Int) + (m : Int))) = ((fs.drop a).take m).map PyData.int := by
    have := cut_mid (fs.map PyData.int) a (a + m) (by simpa using h3) (by omega)
    rw [show ((a + m : Nat) : Int) = (a : Int) + m by omega] at this
    rw [this, show a + m - a = m by omega, List.map_take, List.map_drop]
  obtain ⟨d', rfl, h⟩ : ∃ d, d = PyData.bool true ∧ m_shows_fits [.p (cvD b r), .p (tI fs), .p (.tuple [.str "more", .int (a : Int), .int (m : Int)])] S = some (.p d, S) := by
    refine of_key (b := b_shows_fits) ?_
    unfold b_shows_fits
    refine rn_seq (env' := [some (.p (cvD b r)), some (.p (tI fs)), some (.p (.tuple [.str "more", .int (a : Int), .int (m : Int)]))]) (S' := S) (by simp -implicitDefEqProofs [a1]) ?_
    refine rn_seq (env' := [some (.p (cvD b r)), some (.p (tI fs)), some (.p (.tuple [.str "more", .int (a : Int), .int (m : Int)]))]) (S' := S) (by simp -implicitDefEqProofs [a2]) ?_
    have hin : ∀ S, inT true (.p (.int 3)) (.p (.tuple [.int 1, .int 3])) S = some (.p (.bool false), S) := fun S => by
      rw [e_int1 (v := .int 3) (ds := [.int 1, .int 3]) (vs := [.int 1, .int 3]) rfl rfl rfl]; rfl
    refine rn_seq (env' := [some (.p (cvD b r)), some (.p (tI fs)), some (.p (.tuple [.str "more", .int (a : Int), .int (m : Int)]))]) (S' := S) (if_nx (S' := S) (by simp -implicitDefEqProofs [tupT, allP, hin]) (by rw [tl])) ?_
    refine rn_seq (env' := [some (.p (cvD b r)), some (.p (tI fs)), some (.p (.tuple [.str "more", .int (a : Int), .int (m : Int)]))]) (S' := S) (if_nx (S' := S) (by simp) (by rw [tl])) ?_
    refine rn_seq (env' := [some (.p (cvD b r)), some (.p (tI fs)), some (.p (.tuple [.str "more", .int (a : Int), .int (m : Int)]))]) (S' := S) (if_nx (S' := S) (by simp -implicitDefEqProofs [mm, a4, a5]) (by rw [tl])) ?_
    have hle : (a : Int) + (m : Int) ≤ fs.length := by omega
    refine rn_seq (env' := [some (.p (cvD b r)), some (.p (tI fs)), some (.p (.tuple [.str "more", .int (a : Int), .int (m : Int)]))]) (S' := S) (if_nx (S' := S) (by simp -implicitDefEqProofs [hle]) (by rw [tl])) ?_
    have hws : ((fs.drop a).take m).sum = ws fs a m := rfl
    exact rn_ret (v := .p (.bool true)) (S' := S) (by simp -implicitDefEqProofs [-List.map_take, -List.map_drop, sliceF, someO, slT, cut, hws, a6, h4]) ⟨_, rfl, rfl, [], by simp⟩
  exact h
theorem r_isbool (S : Sto) (x y : Bool) : m__law_is_bool [.p (.bool x), .p (.bool y)] S = some (.p (.bool (x == y)), S) := by
  obtain ⟨d, rfl, h⟩ : ∃ d, d = PyData.bool (x == y) ∧ m__law_is_bool [.p (.bool x), .p (.bool y)] S = some (.p d, S) := by
    refine of_key (b := b__law_is_bool) ?_
    unfold b__law_is_bool
    exact rn_ret (v := .p (.bool (x == y))) (S' := S) (by simp) ⟨_, rfl, rfl, [], by simp⟩
  exact h
end G50
set_option maxHeartbeats 1000000
/-! R50e: the law's windows and burst. -/
namespace G50
open PySem PySem.Spec PyProof.Rows L2 Pv
def winF (fs : List Int) (a : Nat) (k : Nat) : List (Int × Int) := (List.range k).map fun j => (ws fs a (j + 1), ((j + 1 : Nat) : Int))
def wins (fs : List Int) (i : Nat) : List (Int × Int) := (List.range i).flatMap fun a => winF fs a (fs.length - a)
theorem winF_succ (fs : List Int) (a k : Nat) : winF fs a (k + 1) = winF fs a k ++ [(ws fs a (k + 1), ((k + 1 : Nat) : Int))] := by
  unfold winF
  rw [List.range_succ, List.map_append]; rfl
theorem wins_succ (fs : List Int) (i : Nat) : wins fs (i + 1) = wins fs i ++ winF fs i (fs.length - i) := by
  unfold wins
  rw [List.range_succ, List.flatMap_append]; simp
theorem mem_wins {fs : List Int} {i : Nat} {p : Int × Int} : p ∈ wins fs i ↔ ∃ a m : Nat, a < i ∧ 1 ≤ m ∧ a + m ≤ fs.length ∧ p = (ws fs a m, (m : Int)) := by
  unfold wins winF
  simp only [List.mem_flatMap, List.mem_range, List.mem_map]
  constructor
  · rintro ⟨a, ha, j, hj, rfl⟩
    exact ⟨a, j + 1, ha, by omega, by omega, rfl⟩
  · rintro ⟨a, m, ha, h1, h2, rfl⟩
    exact ⟨a, ha, m - 1, by omega, by rw [show m - 1 + 1 = m by omega]⟩
theorem wins_len (fs : List Int) : ∀ i, (wins fs i).length ≤ i * fs.length
  | 0 => by simp -implicitDefEqProofs [wins]
  | i + 1 => by
    rw [wins_succ, List.length_append, Nat.succ_mul]
    have := wins_len fs i
    have : (winF fs i (fs.length - i)).length = fs.length - i := by simp -implicitDefEqProofs [winF]
    omega
theorem wins_small {fs : List Int} {i : Nat} (hl : fs.length ≤ 100) (hi : i ≤ fs.length) : (wins fs i).length ≤ 10000 := by
  have h1 := wins_len fs i
  have h2 : i * fs.length ≤ 100 * 100 := Nat.mul_le_mul (by omega) hl
  omega
theorem r_wins (S : Sto) (fs : List Int) (hl : fs.length ≤ 100) : m__law_windows [.p (tI fs)] S = some (.loc S.length, S ++ [.lst ((wins fs fs.length).map pairI)]) := by
  have tl : S.take S.length = S := List.take_length
  have key : Rn (b__law_windows S.length [some (.p (tI fs)), none, none, none, none, none] S) fun o e s => o = .rt (.loc S.length) ∧ s = S ++ [.lst ((wins fs fs.length).map pairI)] := by
    unfold b__law_windows
    refine rn_seq (env' := [some (.p (tI fs)), some (.loc S.length), none, none, none, none]) (S' := S ++ [.lst []]) (by simp -implicitDefEqProofs [allP, putLoc]) ?_
    refine rn_seq2 (rn_forT (ys := List.range fs.length) (emb := natI) (S1 := S ++ [.lst []]) (gd := []) (i_rangeN (by simp -implicitDefEqProofs) (by omega)) (fun i e s => s = S ++ [.lst ((wins fs i).map pairI)] ∧ ∃ o2 o3 o4 o5 : Option D, e = [some (.p (tI fs)), some (.loc S.length), o2.map T.p, o3.map T.p, o4.map T.p, o5.map T.p]) (fun _ _ _ _ => gd_nil) ⟨by simp -implicitDefEqProofs [wins], none, none, none, none, rfl⟩ (fun i y e s hy ⟨hs, o2, o3, o4, o5, he⟩ => ?_) (fun e s ⟨hs, o2, o3, o4, o5, he⟩ => ?_))
    · subst hs he
      obtain ⟨rfl, hlt⟩ := range_at hy
      have hsm := wins_small hl (Nat.le_of_lt hlt)
      have cut : cutL (fs.map PyData.int) (some (y : Int)) none = (fs.drop y).map PyData.int := by
        rw [cut_from _ _ (by simp; omega), List.map_drop]
      refine ⟨[some (.p (tI fs)), some (.loc S.length), some (.p (natI y)), o3.map T.p, o4.map T.p, o5.map T.p], S ++ [.lst ((wins fs y).map pairI)], by simp, ?_⟩
      refine rn_seq (env' := [some (.p (tI fs)), some (.loc S.length), some (.p (natI y)), some (.p (.int 0)), o4.map T.p, o5.map T.p]) (S' := S ++ [.lst ((wins fs y).map pairI)]) (by simp -implicitDefEqProofs) ?_
      refine rn_for (xs := enumD ((fs.drop y).map PyData.int)) (S1 := S ++ [.lst ((wins fs y).map pairI)]) (gd := []) (by simp -implicitDefEqProofs [-List.map_drop, sliceF, someO, noO, slT, natI, cut]) (fun j e s => s = S ++ [.lst ((wins fs y ++ winF fs y j).map pairI)] ∧ ∃ o4 o5 : Option D, e = [some (.p (tI fs)), some (.loc S.length), some (.p (natI y)), some (.p (.int (ws fs y j))), o4.map T.p, o5.map T.p]) (fun _ _ _ _ => gd_nil) ⟨by simp -implicitDefEqProofs [winF], o4, o5, rfl⟩ (fun j x e s hx ⟨hs, o4, o5, he⟩ => ?_) (fun e s ⟨hs, o4, o5, he⟩ => ?_)
      · subst hs he
        obtain ⟨x', hx', rfl⟩ := enumD_get hx
        rw [List.getElem?_map] at hx'
        obtain ⟨v, hv, rfl⟩ := Option.map_eq_some_iff.mp hx'
        rw [List.getElem?_drop] at hv
        have hws := ws_succ hv
        have hjl : y + j < fs.length := (List.getElem?_eq_some_iff.mp hv).1
        have hwl : (winF fs y j).length = j := by simp -implicitDefEqProofs [winF]
        have hzz : (wins fs y ++ winF fs y j).length < sizeLine := by rw [sizeLine_eq, List.length_append, hwl]; omega
        refine ⟨[some (.p (tI fs)), some (.loc S.length), some (.p (natI y)), some (.p (.int (ws fs y j))), some (.p (.int (j : Int))), some (.p (.int v))], S ++ [.lst ((wins fs y ++ winF fs y j).map pairI)], by simp, ?_⟩
        refine rn_seq (env' := [some (.p (tI fs)), some (.loc S.length), some (.p (natI y)), some (.p (.int (ws fs y (j + 1)))), some (.p (.int (j : Int))), some (.p (.int v))]) (S' := S ++ [.lst ((wins fs y ++ winF fs y j).map pairI)]) (by rw [hws]; simp) ?_
        have hz2 : ((wins fs y ++ winF fs y j).map pairI).length < sizeLine := by rw [List.length_map]; exact hzz
        refine rn_nx (env' := [some (.p (tI fs)), some (.loc S.length), some (.p (natI y)), some (.p (.int (ws fs y (j + 1)))), some (.p (.int (j : Int))), some (.p (.int v))]) (S' := S ++ [.lst ((wins fs y ++ winF fs y (j + 1)).map pairI)]) ?_ ⟨?_, some (.int (j : Int)), some (.int v), ?_⟩
        · rw [winF_succ, ← List.append_assoc, List.map_append (l₁ := wins fs y ++ winF fs y j), List.map_singleton]
          generalize ((wins fs y ++ winF fs y j).map pairI) = L at hz2
          simp [tupT, allP, hz2, pairI]
        · simp
        · simp [forget]
      · subst hs he
        have e1 : (enumD ((fs.drop y).map PyData.int)).length = fs.length - y := by
          have := enumG_len ((fs.drop y).map PyData.int) 0
          unfold enumD
          rw [this, List.length_map, List.length_drop]
        rw [e1, ← wins_succ]
        refine ⟨by simp, some (natI y), some (.int (ws fs y (fs.length - y))), o4, o5, by simp -implicitDefEqProofs [forget]⟩
    · subst hs he
      exact rn_ret (v := .loc S.length) (S' := S ++ [.lst ((wins fs fs.length).map pairI)]) (by simp -implicitDefEqProofs [forget]) ⟨rfl, rfl⟩
  obtain ⟨o, e, s, h1, rfl, rfl⟩ := key
  exact m_ret h1 (gc_new rfl)
theorem isB_max {fs : List Int} {r : Int} : IsB fs r (maxI (0 :: (wins fs fs.length).map fun p => p.1 - r * p.2)) := by
  obtain ⟨h1, h2⟩ := maxI_spec (ns := 0 :: (wins fs fs.length).map fun p => p.1 - r * p.2) (by simp -implicitDefEqProofs)
  generalize maxI (0 :: (wins fs fs.length).map fun p => p.1 - r * p.2) = M at h1 h2
  refine isB_of (fun a m hl => ?_) ?_
  · by_cases hm : 1 ≤ m
    · exact h2 _ (List.mem_cons_of_mem _ (List.mem_map.mpr ⟨(ws fs a m, (m : Int)), mem_wins.mpr ⟨a, m, by omega, hm, hl, rfl⟩, rfl⟩))
    · have : m = 0 := by omega
      subst this
      have := h2 0 List.mem_cons_self
      simp [ws]; exact this
  · rcases List.mem_cons.mp h1 with h | h
    · exact ⟨0, 0, by omega, by simp -implicitDefEqProofs [ws]; exact h.symm⟩
    · obtain ⟨p, hp, e⟩ := List.mem_map.mp h
      obtain ⟨a, m, _, _, hl, rfl⟩ := mem_wins.mp hp
      exact ⟨a, m, hl, e⟩
theorem r_burst (S : Sto) (fs : List Int) (r : Int) (hl : fs.length ≤ 100) (hr : 0 ≤ r ∧ r ≤ 100) : ∃ B, IsB fs r B ∧ m__law_burst [.p (tI fs), .p (.int r)] S = some (.p (.int B), S) := by
  have a1 := fun S => r_wins S fs hl
  have cm : ∀ x, CMul r x := fun x => cmul_l (by omega) (by omega)
  have hsm := wins_small (i := fs.length) hl (Nat.le_refl _)
  have hc := lcF_all (itf := lstI (callF 1 m__law_windows (consF (varF 0) nilF))) (gf := tupG 2 (consG (nameG 2) (consG (nameG 3) nilG))) (fe := binF subI (varF 2) (binF mulI (varF 1) (varF 3))) (vs := [2, 3]) (env := [some (.p (tI fs)), some (.p (.int r)), none, none]) (S := S ++ [.lst [.int 0]]) (S' := S ++ [.lst [.int 0], .lst ((wins fs fs.length).map pairI)]) (gd := [(S.length + 1, .lst ((wins fs fs.length).map pairI))]) pairI (fun p => .int (p.1 - r * p.2)) (wins fs fs.length) (by simp -implicitDefEqProofs [a1]) (fun z hz => by
      have : z = (S.length + 1, O.lst ((wins fs fs.length).map pairI)) := by simpa using hz
      subst this; simp) (by omega) (fun p hp acc => ⟨[some (.p (tI fs)), some (.p (.int r)), some (.p (.int p.1)), some (.p (.int p.2))], [], by simp -implicitDefEqProofs [wipeE, pairI], by simp -implicitDefEqProofs [cm]⟩)
  have em : (wins fs fs.length).map (fun p => PyData.int (p.1 - r * p.2)) = ((wins fs fs.length).map fun p => p.1 - r * p.2).map PyData.int := by rw [List.map_map]; rfl
  rw [em] at hc
  refine ⟨_, isB_max (fs := fs) (r := r), ?_⟩
  have hlen : ((wins fs fs.length).map fun p => p.1 - r * p.2).length ≤ 10000 := by rw [List.length_map]; exact hsm
  generalize ((wins fs fs.length).map fun p => p.1 - r * p.2) = L at hc hlen
  generalize ((wins fs fs.length).map pairI) = W at hc
  have q1 := e_addL (S := S ++ [.lst [.int 0], .lst W, .lst (L.map PyData.int)]) (i := S.length) (j := S.length + 2) (xs := [.int 0]) (ys := L.map PyData.int) (by simp -implicitDefEqProofs) (by simp -implicitDefEqProofs) (by rw [sizeLine_eq]; simp; omega)
  have q2 := e_maxL (S := S ++ [.lst [.int 0], .lst W, .lst (L.map PyData.int), .lst ((0 :: L).map PyData.int)]) (i := S.length + 3) (ns := 0 :: L) (by simp -implicitDefEqProofs) (by simp -implicitDefEqProofs)
  simp only [List.append_assoc, List.cons_append, List.nil_append, List.length_append, List.length_cons, List.length_nil, List.map_cons] at hc q1 q2
  refine m_ret (r := .p (.int (maxI (0 :: L)))) (env' := [some (.p (tI fs)), some (.p (.int r)), none, none]) (S' := S ++ [.lst [.int 0], .lst W, .lst (L.map PyData.int), .lst (.int 0 :: L.map PyData.int)]) (ret_go ?_ : retS _ _ [some (.p (tI fs)), some (.p (.int r)), none, none] S = _) (by simp -implicitDefEqProofs)
  have l0 : lstF (consF (conF (.int 0)) nilF) [some (.p (tI fs)), some (.p (.int r)), none, none] S = some (.loc S.length, S ++ [.lst [.int 0]]) := by simp -implicitDefEqProofs [allP]
  rw [e_arg, e_cons, e_bin, l0, Option.bind_some, e_bin1, hc, Option.bind_some, e_bin2, q1]
  simp only [Option.bind_some, e_cons1, e_nil, Option.map_some, e_cons2, e_argK]
  exact q2
end G50
set_option maxHeartbeats 2000000
/-! R50f: the run of told_let, by its ticks. -/
namespace G50
open PySem PySem.Spec PyProof.Rows L2 Pv
def mn (a b : Int) : Int := if b < a then b else a
/-- what waits, what is full, behind so many ticks; what goes in each -/
structure St where
  w : Int
  f : Int
def stp (b r : Int) (s : St) (x : Int) : St := ⟨s.w + x - mn (s.w + x) s.f, mn (b + r) (s.f - mn (s.w + x) s.f + r)⟩
def sim (b r : Int) (fs : List Int) : Nat → St
  | 0 => ⟨0, b + r⟩
  | n + 1 => stp b r (sim b r fs n) (fs.getD n 0)
def go (b r : Int) (fs : List Int) (n : Nat) : Int := mn ((sim b r fs n).w + fs.getD n 0) (sim b r fs n).f
def gone (b r : Int) (fs : List Int) (n : Nat) : List Int := (List.range n).map (go b r fs)
def on (b r : Int) (fs : List Int) (n : Nat) : Prop := n < fs.length ∨ 0 < (sim b r fs n).w
def bad (b r : Int) (fs : List Int) (n : Nat) : Prop := 0 < (sim b r fs (n + 1)).w ∧ r = 0 ∧ (sim b r fs (n + 1)).f = 0
theorem gone_succ (b r : Int) (fs : List Int) (n : Nat) : gone b r fs (n + 1) = gone b r fs n ++ [go b r fs n] := by
  unfold gone
  rw [List.range_succ, List.map_append]; rfl
theorem gone_len (b r : Int) (fs : List Int) (n : Nat) : (gone b r fs n).length = n := by simp -implicitDefEqProofs [gone]
abbrev leE (cv tr : D) (o5 o6 o7 o8 o9 : Option D) : Pv.Env := [some (.p cv), some (.p tr), some (.loc 2), some (.loc 3), some (.loc 4), o5.map T.p, o6.map T.p, o7.map T.p, o8.map T.p, o9.map T.p]
abbrev leS (C p : O) (b r f : Int) (found : List Int) : Sto := [C, p, .lst [prD (b + r) r], .lst [.int f], .lst (found.map PyData.int)]
theorem r_buckets (S : Sto) (b r : Int) : m_buckets_of [.p (cvD b r)] S = some (.loc S.length, S ++ [.lst [prD (b + r) r]]) := by
  have hc := lcF_all (itf := tupI (varF 0)) (gf := tupG 2 (consG (nameG 1) (consG (nameG 2) nilG))) (fe := tupF (consF (binF addT (varF 1) (varF 2)) (consF (varF 2) nilF))) (vs := [1, 2]) (env := [some (.p (cvD b r)), none, none]) (S := S) (S' := S) (gd := []) (fun _ : Unit => prD b r) (fun _ => prD (b + r) r) [()] (by simp -implicitDefEqProofs) gd_nil (by simp -implicitDefEqProofs) (fun _ _ acc => ⟨[some (.p (cvD b r)), some (.p (.int b)), some (.p (.int r))], [], by simp -implicitDefEqProofs [wipeE], by simp -implicitDefEqProofs [tupT, allP]⟩)
  exact m_ret (ret_go hc : retS _ _ [some (.p (cvD b r)), none, none] S = _) (gc_new rfl)
theorem minI_two (a b : Int) : minI [a, b] = mn a b := by
  show min a b = mn a b
  unfold mn
  rw [Int.min_def]
  split <;> split <;> omega
theorem le_min (C p : O) (b r f w g : Int) (found : List Int) (cv tr : D) (o6 o7 o8 o9 : Option D) : argF (mmT minI) (consF (lstF (consF (varF 5) (starF (varF 3) nilF))) nilF) (leE cv tr (some (.int w)) o6 o7 o8 o9) (leS C p b r f found) = some (.p (.int (mn w f)), leS C p b r f found ++ [.lst [.int w, .int f]]) := by
  have l0 : lstF (consF (varF 5) (starF (varF 3) nilF)) (leE cv tr (some (.int w)) o6 o7 o8 o9) (leS C p b r f found) = some (.loc 5, leS C p b r f found ++ [.lst ([w, f].map PyData.int)]) := by
    have st := e_starL (g := nilF) (env := leE cv tr (some (.int w)) o6 o7 o8 o9) (S := leS C p b r f found) (i := 3) (ds := [.int f]) rfl
    simp [allP, st]
  have q := e_minL (S := leS C p b r f found ++ [.lst ([w, f].map PyData.int)]) (i := 5) (ns := [w, f]) rfl (by simp -implicitDefEqProofs)
  rw [minI_two] at q
  rw [e_arg, e_cons, l0]
  simp only [Option.bind_some, e_cons1, e_nil, Option.map_some, e_cons2, e_argK]
  exact q
theorem le_full (C p : O) (b r f g : Int) (found : List Int) (cv tr : D) (o5 o7 o8 o9 : Option D) : setS 3 (lcF (zipI (consF (varF 2) (consF (varF 3) nilF))) (tupG 2 (consG (tupG 2 (consG (nameG 7) (consG (nameG 8) nilG))) (consG (nameG 9) nilG))) yesT (argF min2T (consF (varF 7) (consF (binF addT (binF subI (varF 9) (varF 6)) (varF 8)) nilF))) [7, 8, 9]) 2 (leE cv tr o5 (some (.int g)) o7 o8 o9) (leS C p b r f found)
    = some (.nx, leE cv tr o5 (some (.int g)) o7 o8 o9, leS C p b r (mn (b + r) (f - g + r)) found) := by
  have hc := lcF_all (itf := zipI (consF (varF 2) (consF (varF 3) nilF))) (gf := tupG 2 (consG (tupG 2 (consG (nameG 7) (consG (nameG 8) nilG))) (consG (nameG 9) nilG))) (fe := argF min2T (consF (varF 7) (consF (binF addT (binF subI (varF 9) (varF 6)) (varF 8)) nilF))) (vs := [7, 8, 9]) (env := leE cv tr o5 (some (.int g)) o7 o8 o9) (S := leS C p b r f found) (S' := leS C p b r f found) (gd := [(2, .lst [prD (b + r) r]), (3, .lst [.int f])]) (fun _ : Unit => PyData.tuple [prD (b + r) r, .int f]) (fun _ => .int (mn (b + r) (f - g + r))) [()] (by simp -implicitDefEqProofs [zipD]) (fun z hz => by
      simp at hz
      rcases hz with rfl | rfl <;> rfl) (by simp -implicitDefEqProofs) (fun _ _ acc => ⟨leE cv tr o5 (some (.int g)) (some (.int (b + r))) (some (.int r)) (some (.int f)), [], by simp -implicitDefEqProofs [wipeE], by simp -implicitDefEqProofs [mn]⟩)
  rw [s_set, hc]
  simp [gcV, gcT, gcOb, putSlot, putLoc, lone, noLoc, List.range, List.range.loop]
  exact ⟨by cases o5 <;> rfl, by cases o7 <;> rfl, by cases o8 <;> rfl, by cases o9 <;> rfl⟩
theorem le_any (C p : O) (b r f w : Int) (found : List Int) (cv tr : D) (o6 o7 o8 o9 : Option D) : ∃ S', andT (asT (binF gtI (varF 5) (conF (.int 0)))) (asT (argF (allT true) (consF (lcF (zipI (consF (varF 2) (consF (varF 3) nilF))) (tupG 2 (consG (tupG 2 (consG (nameG 7) (consG (nameG 8) nilG))) (consG (nameG 9) nilG))) yesT (andF (binF (eqT false) (varF 8) (conF (.int 0))) (binF (eqT false) (varF 9) (conF (.int 0)))) [7, 8, 9]) nilF))) (leE cv tr (some (.int w)) o6 o7 o8 o9) (leS C p b r f found)
    = some (decide (0 < w ∧ r = 0 ∧ f = 0), leS C p b r f found ++ S') := by
  by_cases hw : 0 < w
  · have hc := lcF_all (itf := zipI (consF (varF 2) (consF (varF 3) nilF))) (gf := tupG 2 (consG (tupG 2 (consG (nameG 7) (consG (nameG 8) nilG))) (consG (nameG 9) nilG))) (fe := andF (binF (eqT false) (varF 8) (conF (.int 0))) (binF (eqT false) (varF 9) (conF (.int 0)))) (vs := [7, 8, 9]) (env := leE cv tr (some (.int w)) o6 o7 o8 o9) (S := leS C p b r f found) (S' := leS C p b r f found) (gd := [(2, .lst [prD (b + r) r]), (3, .lst [.int f])]) (fun _ : Unit => PyData.tuple [prD (b + r) r, .int f]) (fun _ => .bool (decide (r = 0 ∧ f = 0))) [()] (by simp -implicitDefEqProofs [zipD]) (fun z hz => by
      simp at hz
      rcases hz with rfl | rfl <;> rfl) (by simp -implicitDefEqProofs) (fun _ _ acc => ⟨leE cv tr (some (.int w)) o6 (some (.int (b + r))) (some (.int r)) (some (.int f)), [], by simp -implicitDefEqProofs [wipeE], by
        by_cases hr : r = 0
        · subst hr; simp
        · simp [hr]⟩)
    have q2 := e_allL (b := true) (S := leS C p b r f found ++ [.lst ([decide (r = 0 ∧ f = 0)].map PyData.bool)]) (i := 5) (bs := [decide (r = 0 ∧ f = 0)]) rfl
    refine ⟨[.lst [.bool (decide (r = 0 ∧ f = 0))]], ?_⟩
    rw [e_andT, show asT (binF gtI (varF 5) (conF (.int 0))) (leE cv tr (some (.int w)) o6 o7 o8 o9) (leS C p b r f found) = some (true, leS C p b r f found) by simp -implicitDefEqProofs [hw], Option.bind_some, e_andT1 rfl, e_as, e_arg, e_cons, hc]
    simp only [Option.bind_some, e_cons1, e_nil, Option.map_some, e_cons2, e_argK]
    have e5 : (leS C p b r f found).length = 5 := rfl
    have em : [()].map (fun _ => PyData.bool (decide (r = 0 ∧ f = 0))) = [decide (r = 0 ∧ f = 0)].map PyData.bool := rfl
    rw [e5, em, q2, Option.bind_some, e_asK]
    simp [hw]
  · refine ⟨[], ?_⟩
    have hw' : w ≤ 0 := by omega
    rw [decide_eq_false (fun h => hw h.1)]
    simp [hw']
/-- a tick -/
theorem le_tick (C p : O) (b r : Int) (fs : List Int) (n : Nat) (hn : n ≤ 1999) (o6 o7 o8 o9 : Option D) (hon : on b r fs n) (Q : Out → Pv.Env → Sto → Prop)
    (hbad : bad b r fs n → ∀ e s, (∃ T, s = [C, p] ++ T) → Q (.rt (.p .none)) e s)
    (hok : ¬ bad b r fs n → ∀ o6 o7 o8 o9 : Option D, Q .nx (leE (cvD b r) (tI fs) (some (.int (sim b r fs (n + 1)).w)) o6 o7 o8 o9) (leS C p b r (sim b r fs (n + 1)).f (gone b r fs (n + 1)))) :
    Rn ((seqS (augS 5 (iop fun i j => some (.int (i + j))) (ifF (asT (binF ltI (argF lenT (consF (varF 4) nilF)) (argF lenT (consF (varF 1) nilF)))) (binF ixT (varF 1) (argF lenT (consF (varF 4) nilF))) (conF (.int 0)))) (seqS (setS 6 (argF (mmT minI) (consF (lstF (consF (varF 5) (starF (varF 3) nilF))) nilF))) (seqS (exprS (methF appendT (varF 4) (consF (varF 6) nilF))) (seqS (augS 5 subI (varF 6)) (seqS (setS 3 (lcF (zipI (consF (varF 2) (consF (varF 3) nilF))) (tupG 2 (consG (tupG 2 (consG (nameG 7) (consG (nameG 8) nilG))) (consG (nameG 9) nilG))) yesT (argF min2T (consF (varF 7) (consF (binF addT (binF subI (varF 9) (varF 6)) (varF 8)) nilF))) [7, 8, 9])) (seqS (ifS (andT (asT (binF gtI (varF 5) (conF (.int 0)))) (asT (argF (allT true) (consF (lcF (zipI (consF (varF 2) (consF (varF 3) nilF))) (tupG 2 (consG (tupG 2 (consG (nameG 7) (consG (nameG 8) nilG))) (consG (nameG 9) nilG))) yesT (andF (binF (eqT false) (varF 8) (conF (.int 0))) (binF (eqT false) (varF 9) (conF (.int 0)))) [7, 8, 9]) nilF)))) (retS (conF .none)) nextS) (ifS (asT (binF gtI (argF lenT (consF (varF 4) nilF)) (conF (.int 2000)))) noneS nextS))))))) 2 (leE (cvD b r) (tI fs) (some (.int (sim b r fs n).w)) o6 o7 o8 o9) (leS C p b r (sim b r fs n).f (gone b r fs n))) Q := by
  have gl := gone_len b r fs n
  have hw1 : (sim b r fs (n + 1)).w = (sim b r fs n).w + fs.getD n 0 - go b r fs n := rfl
  have hf1 : (sim b r fs (n + 1)).f = mn (b + r) ((sim b r fs n).f - go b r fs n + r) := rfl
  have hgo : go b r fs n = mn ((sim b r fs n).w + fs.getD n 0) (sim b r fs n).f := rfl
  have gs := gone_succ b r fs n
  have glen1 := gone_len b r fs (n + 1)
  unfold bad at hbad hok
  generalize (sim b r fs (n + 1)).w = w1 at *
  generalize (sim b r fs (n + 1)).f = f1 at *
  generalize (sim b r fs n).w = w at *
  generalize (sim b r fs n).f = f at *
  generalize go b r fs n = g at *
  generalize gone b r fs n = F at *
  have hx : (if (n : Int) < (fs.length : Int) then True else True) := by split <;> trivial
  refine rn_seq (env' := leE (cvD b r) (tI fs) (some (.int (w + fs.getD n 0))) o6 o7 o8 o9) (S' := leS C p b r f F) ?_ ?_
  · by_cases hlt : n < fs.length
    · have hat : fs[n]? = some (fs.getD n 0) := by rw [List.getD_eq_getElem?_getD, List.getElem?_eq_getElem hlt]; rfl
      have ha := at_nat hat (i := (n : Int)) rfl
      generalize fs.getD n 0 = x at *
      simp [augS, gl, hlt, ha, putSlot]
    · have hge : fs.length ≤ n := by omega
      have : fs.getD n 0 = 0 := by rw [List.getD_eq_getElem?_getD, List.getElem?_eq_none hge]; rfl
      rw [this]
      simp [augS, gl, hge, putSlot]
  refine rn_seq (env' := leE (cvD b r) (tI fs) (some (.int (w + fs.getD n 0))) (some (.int g)) o7 o8 o9) (S' := leS C p b r f F) ?_ ?_
  · have lm := le_min C p b r f (w + fs.getD n 0) g F (cvD b r) (tI fs) o6 o7 o8 o9
    rw [s_set, lm, ← hgo]
    simp
  have hz : F.length < sizeLine := by rw [sizeLine_eq]; omega
  refine rn_seq (env' := leE (cvD b r) (tI fs) (some (.int (w + fs.getD n 0))) (some (.int g)) o7 o8 o9) (S' := leS C p b r f (gone b r fs (n + 1))) ?_ ?_
  · rw [gs]
    simp [hz]
  refine rn_seq (env' := leE (cvD b r) (tI fs) (some (.int w1)) (some (.int g)) o7 o8 o9) (S' := leS C p b r f (gone b r fs (n + 1))) ?_ ?_
  · rw [hw1]
    simp [augS, putSlot]
  generalize gone b r fs (n + 1) = F1 at *
  refine rn_seq (env' := leE (cvD b r) (tI fs) (some (.int w1)) (some (.int g)) o7 o8 o9) (S' := leS C p b r f1 F1) ?_ ?_
  · rw [hf1]
    exact le_full C p b r f g F1 (cvD b r) (tI fs) (some (.int w1)) o7 o8 o9
  obtain ⟨S', la⟩ := le_any C p b r f1 w1 F1 (cvD b r) (tI fs) (some (.int g)) o7 o8 o9
  by_cases hb : 0 < w1 ∧ r = 0 ∧ f1 = 0
  · rw [decide_eq_true hb] at la
    refine rn_seq2 (rn_if1 la (rn_ret e_con ?_))
    exact hbad hb _ _ ⟨[.lst [prD (b + r) r], .lst [.int f1], .lst (F1.map PyData.int)], by simp⟩
  · rw [decide_eq_false hb] at la
    refine rn_seq (if_nx la (by rw [List.take_append_of_le_length (by simp -implicitDefEqProofs), List.take_of_length_le (by simp -implicitDefEqProofs)])) ?_
    refine rn_nx (if_nx (S' := leS C p b r f1 F1) ?_ rfl) (hok hb (some (.int g)) o7 o8 o9)
    have : (F1.length : Int) ≤ 2000 := by omega
    simp [this]
end G50
set_option maxHeartbeats 2000000
/-! R50g: told_let, shaped. -/
namespace G50
open PySem PySem.Spec PyProof.Rows L2 Pv
instance (b r : Int) (fs : List Int) (n : Nat) : Decidable (bad b r fs n) := inferInstanceAs (Decidable (_ ∧ _))
instance (b r : Int) (fs : List Int) (n : Nat) : Decidable (on b r fs n) := inferInstanceAs (Decidable (_ ∨ _))
theorem r_let (C p : O) (b r : Int) (fs : List Int) (N : Nat) (hN : N ≤ 2000) (h : ∀ n, n < N → on b r fs n ∧ ¬ bad b r fs n) (h2 : ¬ on b r fs N ∨ (N < 2000 ∧ on b r fs N ∧ bad b r fs N)) :
    m_told_let [.p (cvD b r), .p (tI fs)] [C, p] = some (.p (if on b r fs N then .none else tI (gone b r fs N)), [C, p]) := by
  have a1 := r_buckets [C, p] b r
  simp only [List.length_cons, List.length_nil, List.cons_append, List.nil_append] at a1
  obtain ⟨d, rfl, h⟩ : ∃ d, d = (if on b r fs N then PyData.none else tI (gone b r fs N)) ∧ m_told_let [.p (cvD b r), .p (tI fs)] [C, p] = some (.p d, [C, p]) := by
    refine of_key (b := b_told_let) ?_
    unfold b_told_let
    refine rn_seq (env' := [some (.p (cvD b r)), some (.p (tI fs)), some (.loc 2), none, none, none, none, none, none, none]) (S' := [C, p, .lst [prD (b + r) r]]) (by simp -implicitDefEqProofs [a1, gcV, gcT, gcOb, putLoc]) ?_
    have hc := lcF_all (itf := lstI (varF 2)) (gf := tupG 2 (consG (nameG 7) (consG (nameG 8) nilG))) (fe := varF 7) (vs := [7, 8]) (env := [some (.p (cvD b r)), some (.p (tI fs)), some (.loc 2), none, none, none, none, none, none, none]) (S := [C, p, .lst [prD (b + r) r]]) (S' := [C, p, .lst [prD (b + r) r]]) (gd := [(2, .lst [prD (b + r) r])]) (fun _ : Unit => prD (b + r) r) (fun _ => .int (b + r)) [()] (by simp -implicitDefEqProofs) (fun z hz => by
      simp at hz
      subst hz; rfl) (by simp -implicitDefEqProofs) (fun _ _ acc => ⟨[some (.p (cvD b r)), some (.p (tI fs)), some (.loc 2), none, none, none, none, some (.p (.int (b + r))), some (.p (.int r)), none], [], by simp -implicitDefEqProofs [wipeE], by simp⟩)
    refine rn_seq (env' := leE (cvD b r) (tI fs) (some (.int (sim b r fs 0).w)) none none none none) (S' := leS C p b r (sim b r fs 0).f (gone b r fs 0)) ?_ ?_
    · have l0 : consF (lcF (lstI (varF 2)) (tupG 2 (consG (nameG 7) (consG (nameG 8) nilG))) yesT (varF 7) [7, 8]) (consF (lstF nilF) (consF (conF (.int 0)) nilF)) [some (.p (cvD b r)), some (.p (tI fs)), some (.loc 2), none, none, none, none, none, none, none] [C, p, .lst [prD (b + r) r]] = some ([.loc 3, .loc 4, .p (.int 0)], [C, p, .lst [prD (b + r) r], .lst [.int (b + r)], .lst []]) := by
        rw [e_cons, hc]
        simp -implicitDefEqProofs [allP]
      unfold parS3
      rw [l0, Option.bind_some]
      simp -implicitDefEqProofs [gcTs, gcT, gcOb, sim, gone]
    refine rn_seq2 (rn_while (fun k e s => ∃ n, k + n = N ∧ (∃ o6 o7 o8 o9 : Option D, e = leE (cvD b r) (tI fs) (some (.int (sim b r fs n).w)) o6 o7 o8 o9) ∧ s = leS C p b r (sim b r fs n).f (gone b r fs n)) ⟨N, by omega, 0, rfl, ⟨none, none, none, none, rfl⟩, rfl⟩ (fun k e s ⟨n, hk, ⟨o6, o7, o8, o9, he⟩, hs⟩ => ?_))
    subst he hs
    have gl := gone_len b r fs n
    have test : ∀ c : Bool, (c = decide (on b r fs n)) → orT (asT (binF ltI (argF lenT (consF (varF 4) nilF)) (argF lenT (consF (varF 1) nilF)))) (asT (binF gtI (varF 5) (conF (.int 0)))) (leE (cvD b r) (tI fs) (some (.int (sim b r fs n).w)) o6 o7 o8 o9) (leS C p b r (sim b r fs n).f (gone b r fs n)) = some (c, leS C p b r (sim b r fs n).f (gone b r fs n)) := fun c hcc => by
      by_cases hlt : n < fs.length
      · have : c = true := by rw [hcc]; exact decide_eq_true (.inl hlt)
        rw [this]
        simp -implicitDefEqProofs [gl, hlt]
      · have hge : fs.length ≤ n := by omega
        by_cases hw : 0 < (sim b r fs n).w
        · have : c = true := by rw [hcc]; exact decide_eq_true (.inr hw)
          rw [this]
          simp -implicitDefEqProofs [gl, hge, hw]
        · have : c = false := by rw [hcc]; exact decide_eq_false (fun h => h.elim hlt hw)
          have hw' : (sim b r fs n).w ≤ 0 := by omega
          rw [this]
          simp -implicitDefEqProofs [gl, hge, hw']
    have hnN : n ≤ N := by omega
    by_cases hlast : n = N
    · subst hlast
      rcases h2 with h2 | ⟨h3, h4, h5⟩
      · refine .inl ⟨_, test false (decide_eq_false h2).symm, ?_⟩
        have e2 := e_tuple (S := leS C p b r (sim b r fs n).f (gone b r fs n)) (i := 4) (ds := (gone b r fs n).map PyData.int) rfl
        refine rn_ret (v := .p (tI (gone b r fs n))) (S' := leS C p b r (sim b r fs n).f (gone b r fs n)) ?_ ⟨_, rfl, by rw [if_neg h2], [.lst [prD (b + r) r], .lst [.int (sim b r fs n).f], .lst ((gone b r fs n).map PyData.int)], by simp⟩
        generalize (gone b r fs n) = F at *
        simp -implicitDefEqProofs [e2]
      · refine .inr ⟨_, test true (decide_eq_true h4).symm, ?_⟩
        refine le_tick C p b r fs n (by omega) o6 o7 o8 o9 h4 _ (fun _ e s hT => ⟨_, rfl, by rw [if_pos h4], hT⟩) (fun hnb => absurd h5 hnb)
    · obtain ⟨q1, q2⟩ := h n (by omega)
      refine .inr ⟨_, test true (decide_eq_true q1).symm, ?_⟩
      refine le_tick C p b r fs n (by omega) o6 o7 o8 o9 q1 _ (fun hb => absurd hb q2) (fun _ o6 o7 o8 o9 => ⟨k - 1, by omega, n + 1, by omega, ⟨o6, o7, o8, o9, by simp -implicitDefEqProofs [forget]⟩, by simp⟩)
  exact h
theorem r_shaped (C p : O) (b r : Int) (fs : List Int) (hb : 0 ≤ b ∧ b ≤ 400) (hr : 0 ≤ r ∧ r ≤ 100) (F : Tr fs) (d : D) (h : m_told_let [.p (cvD b r), .p (tI fs)] [C, p] = some (.p d, [C, p])) : m_shaped [.p (cvD b r), .p (tI fs)] [C, p] = some (.p d, [C, p]) := by
  have a1 := r_curve [C, p] b r hb hr
  have a2 := r_traffic [C, p] fs F
  obtain ⟨d', rfl, h9⟩ : ∃ d', d' = d ∧ m_shaped [.p (cvD b r), .p (tI fs)] [C, p] = some (.p d', [C, p]) := by
    refine of_key (b := b_shaped) ?_
    unfold b_shaped
    refine rn_seq (env' := [some (.p (cvD b r)), some (.p (tI fs))]) (S' := [C, p]) (by simp -implicitDefEqProofs [a1]) ?_
    refine rn_seq (env' := [some (.p (cvD b r)), some (.p (tI fs))]) (S' := [C, p]) (by simp -implicitDefEqProofs [a2]) ?_
    exact rn_ret (v := .p d) (S' := [C, p]) (by simp -implicitDefEqProofs [h]) ⟨_, rfl, rfl, [], by simp⟩
  exact h9
end G50
set_option maxHeartbeats 1000000
/-! L50b: what is shaped, in plain numbers. -/
namespace G50
theorem mn_le (a b : Int) : mn a b ≤ a ∧ mn a b ≤ b := by unfold mn; split <;> omega
theorem mn_or (a b : Int) : mn a b = a ∨ mn a b = b := by unfold mn; split <;> simp
theorem getD_some {fs : List Int} {n : Nat} (h : n < fs.length) : fs[n]? = some (fs.getD n 0) := by
  rw [List.getD_eq_getElem?_getD, List.getElem?_eq_getElem h]; rfl
theorem getD_out {fs : List Int} {n : Nat} (h : fs.length ≤ n) : fs.getD n 0 = 0 := by
  rw [List.getD_eq_getElem?_getD, List.getElem?_eq_none h]; rfl
theorem getD_pos {fs : List Int} (h : ∀ f ∈ fs, 0 ≤ f) (n : Nat) : 0 ≤ fs.getD n 0 := by
  by_cases hn : n < fs.length
  · have := getD_some hn
    exact h _ (List.mem_of_getElem? this)
  · rw [getD_out (by omega)]; exact Int.le_refl _
theorem sim_w (b r : Int) (fs : List Int) (n : Nat) : (sim b r fs (n + 1)).w = (sim b r fs n).w + fs.getD n 0 - go b r fs n := rfl
theorem sim_f (b r : Int) (fs : List Int) (n : Nat) : (sim b r fs (n + 1)).f = mn (b + r) ((sim b r fs n).f - go b r fs n + r) := rfl
theorem go_eq (b r : Int) (fs : List Int) (n : Nat) : go b r fs n = mn ((sim b r fs n).w + fs.getD n 0) (sim b r fs n).f := rfl
/-! it fits: nothing waits -/
theorem fit_inv {b r B : Int} {fs : List Int} (hB : IsB fs r B) (hb : B ≤ b) : ∀ n, n ≤ fs.length → (sim b r fs n).w = 0 ∧ (∀ a, a ≤ n → Fr fs r n - Fr fs r a ≤ b + r - (sim b r fs n).f) ∧ ∃ a, a ≤ n ∧ Fr fs r n - Fr fs r a = b + r - (sim b r fs n).f
  | 0, _ => ⟨rfl, fun a h => by
      have : a = 0 := by omega
      subst this
      show _ ≤ b + r - (b + r)
      omega, 0, by omega, by show _ = b + r - (b + r); omega⟩
  | n + 1, hn => by
    obtain ⟨h1, h2, a, h3, h4⟩ := fit_inv hB hb n (by omega)
    have hx := getD_some (fs := fs) (n := n) (by omega)
    have e := Fr_succ (r := r) hx
    have hle := hB.le a (n + 1) (by omega) hn
    have hg : go b r fs n = fs.getD n 0 := by
      rw [go_eq, h1]; unfold mn; split <;> omega
    have hf := sim_f b r fs n
    rw [hg] at hf
    have hw := sim_w b r fs n
    rw [hg, h1] at hw
    have m1 := mn_le (b + r) ((sim b r fs n).f - fs.getD n 0 + r)
    have m2 := mn_or (b + r) ((sim b r fs n).f - fs.getD n 0 + r)
    rw [← hf] at m1 m2
    refine ⟨by omega, fun a' ha' => ?_, ?_⟩
    · by_cases h : a' ≤ n
      · have := h2 a' h
        omega
      · have : a' = n + 1 := by omega
        subst this
        omega
    · rcases m2 with m2 | m2
      · exact ⟨n + 1, by omega, by omega⟩
      · exact ⟨a, by omega, by omega⟩
theorem fit_go {b r B : Int} {fs : List Int} (hB : IsB fs r B) (hb : B ≤ b) (n : Nat) (hn : n < fs.length) : go b r fs n = fs.getD n 0 := by
  have h1 := (fit_inv hB hb n (by omega)).1
  have h2 := (fit_inv hB hb (n + 1) (by omega)).1
  have := sim_w b r fs n
  omega
theorem fit_ok {b r B : Int} {fs : List Int} (hB : IsB fs r B) (hb : B ≤ b) : (∀ n, n < fs.length → on b r fs n ∧ ¬ bad b r fs n) ∧ ¬ on b r fs fs.length ∧ gone b r fs fs.length = fs := by
  refine ⟨fun n hn => ⟨.inl hn, fun h => ?_⟩, fun h => ?_, ?_⟩
  · have := (fit_inv hB hb (n + 1) (by omega)).1
    have := h.1
    omega
  · rcases h with h | h
    · omega
    · have := (fit_inv hB hb fs.length (Nat.le_refl _)).1
      omega
  · refine List.ext_getElem? fun n => ?_
    by_cases hn : n < fs.length
    · unfold gone
      rw [List.getElem?_map, List.getElem?_range hn, getD_some hn]
      show some (go b r fs n) = _
      rw [fit_go hB hb n hn]
    · rw [List.getElem?_eq_none (by rw [gone_len]; omega), List.getElem?_eq_none (by omega)]
/-! some rate -/
theorem pf_out {fs : List Int} {n : Nat} (h : fs.length ≤ n) : pf fs n = fs.sum := by unfold pf; rw [List.take_of_length_le h]
theorem pf_next (fs : List Int) (n : Nat) : pf fs (n + 1) = pf fs n + fs.getD n 0 := by
  by_cases h : n < fs.length
  · exact pf_succ (getD_some h)
  · rw [getD_out (by omega), pf_out (by omega), pf_out (by omega)]; omega
theorem sim_inv {b r : Int} {fs : List Int} (hp : ∀ f ∈ fs, 0 ≤ f) (hb : 0 ≤ b) (hr : 0 ≤ r) : ∀ n, 0 ≤ (sim b r fs n).w ∧ r ≤ (sim b r fs n).f ∧ (sim b r fs n).f ≤ b + r ∧ (gone b r fs n).sum = pf fs n - (sim b r fs n).w
  | 0 => ⟨Int.le_refl _, by show r ≤ b + r; omega, Int.le_refl _, rfl⟩
  | n + 1 => by
    obtain ⟨h1, h2, h3, h4⟩ := sim_inv hp hb hr n
    have hx := getD_pos hp n
    have hg := mn_le ((sim b r fs n).w + fs.getD n 0) (sim b r fs n).f
    rw [← go_eq] at hg
    have hf := sim_f b r fs n
    have m1 := mn_le (b + r) ((sim b r fs n).f - go b r fs n + r)
    have m2 := mn_or (b + r) ((sim b r fs n).f - go b r fs n + r)
    rw [← hf] at m1 m2
    have hw := sim_w b r fs n
    refine ⟨by omega, by omega, by omega, ?_⟩
    rw [gone_succ, sum_app', h4, pf_next, hw]
    simp; omega
theorem go_pos {b r : Int} {fs : List Int} (hp : ∀ f ∈ fs, 0 ≤ f) (hb : 0 ≤ b) (hr : 0 ≤ r) (n : Nat) : 0 ≤ go b r fs n ∧ go b r fs n ≤ (sim b r fs n).f := by
  obtain ⟨h1, h2, _, _⟩ := sim_inv hp hb hr n
  have hx := getD_pos hp n
  have hg := mn_le ((sim b r fs n).w + fs.getD n 0) (sim b r fs n).f
  have hg2 := mn_or ((sim b r fs n).w + fs.getD n 0) (sim b r fs n).f
  rw [← go_eq] at hg hg2
  omega
theorem w_falls {b r : Int} {fs : List Int} (hp : ∀ f ∈ fs, 0 ≤ f) (hb : 0 ≤ b) (hr : 1 ≤ r) : ∀ k, (sim b r fs (fs.length + k)).w ≤ (if fs.sum - k < 0 then 0 else fs.sum - k)
  | 0 => by
    have h := (sim_inv hp hb (by omega : 0 ≤ r) fs.length)
    have hg : 0 ≤ (gone b r fs fs.length).sum := by
      have hh : ∀ x ∈ gone b r fs fs.length, 0 ≤ x := fun x hx => by
        unfold gone at hx
        obtain ⟨n, _, rfl⟩ := List.mem_map.mp hx
        exact (go_pos hp hb (by omega) n).1
      generalize gone b r fs fs.length = l at hh
      induction l with
      | nil => simp
      | cons x l ih =>
        have := hh x List.mem_cons_self
        have := ih fun y hy => hh y (List.mem_cons_of_mem _ hy)
        simp; omega
    have e := pf_len fs
    have : (sim b r fs (fs.length + 0)).w = (sim b r fs fs.length).w := rfl
    rw [this]
    split <;> omega
  | k + 1 => by
    have ih := w_falls hp hb hr k
    have hw := sim_w b r fs (fs.length + k)
    have h := sim_inv hp hb (by omega : 0 ≤ r) (fs.length + k)
    have hx : fs.getD (fs.length + k) 0 = 0 := getD_out (by omega)
    have hg2 := mn_or ((sim b r fs (fs.length + k)).w + fs.getD (fs.length + k) 0) (sim b r fs (fs.length + k)).f
    rw [← go_eq] at hg2
    have : fs.length + (k + 1) = fs.length + k + 1 := by omega
    rw [this]
    rw [hx] at hg2 hw
    have hn := sim_inv hp hb (by omega : 0 ≤ r) (fs.length + k + 1)
    split <;> split at ih <;> omega
theorem least_of {P : Nat → Prop} [DecidablePred P] : ∀ {n : Nat}, P n → ∃ m, m ≤ n ∧ P m ∧ ∀ k, k < m → ¬ P k
  | 0, h => ⟨0, Nat.le_refl _, h, fun k hk => absurd hk (Nat.not_lt_zero _)⟩
  | n + 1, h => by
    by_cases hs : ∃ k, k ≤ n ∧ P k
    · obtain ⟨k, hk, pk⟩ := hs
      have key : ∀ k, k ≤ n → P k → ∃ m, m ≤ k ∧ P m ∧ ∀ j, j < m → ¬ P j := by
        intro k
        induction k using Nat.strongRecOn with
        | _ k ih =>
          intro hk pk
          by_cases h2 : ∃ j, j < k ∧ P j
          · obtain ⟨j, hj, pj⟩ := h2
            obtain ⟨m, h1, h2, h3⟩ := ih j hj (by omega) pj
            exact ⟨m, by omega, h2, h3⟩
          · exact ⟨k, Nat.le_refl _, pk, fun j hj pj => h2 ⟨j, hj, pj⟩⟩
      obtain ⟨m, h1, h2, h3⟩ := key k hk pk
      exact ⟨m, by omega, h2, h3⟩
    · exact ⟨n + 1, Nat.le_refl _, h, fun k hk pk => hs ⟨k, by omega, pk⟩⟩
/-- it ends -/
theorem end_ok {b r : Int} {fs : List Int} (hp : ∀ f ∈ fs, 0 ≤ f) (hb : 0 ≤ b) (hr : 1 ≤ r) {M : Nat} (hs : fs.sum ≤ M) : ∃ N, N ≤ fs.length + M ∧ ¬ on b r fs N ∧ ∀ n, n < N → on b r fs n := by
  have h0 : ¬ on b r fs (fs.length + M) := by
    intro h
    rcases h with h | h
    · omega
    · have := w_falls hp hb hr M
      split at this <;> omega
  obtain ⟨N, h1, h2, h3⟩ := least_of (P := fun n => ¬ on b r fs n) h0
  exact ⟨N, h1, h2, fun n hn => by
    have := h3 n hn
    exact Decidable.not_not.mp this⟩
theorem off_facts {b r : Int} {fs : List Int} (hp : ∀ f ∈ fs, 0 ≤ f) (hb : 0 ≤ b) (hr : 0 ≤ r) {N : Nat} (h : ¬ on b r fs N) : (gone b r fs N).sum = fs.sum := by
  have h1 : fs.length ≤ N := by
    by_cases hh : N < fs.length
    · exact absurd (.inl hh) h
    · omega
  have h2 : ¬ 0 < (sim b r fs N).w := fun hh => h (.inr hh)
  obtain ⟨q1, _, _, q4⟩ := sim_inv hp hb hr N
  rw [q4, pf_out h1]; omega
/-- what is shaped fits -/
theorem gone_fits {b r : Int} {fs : List Int} (hp : ∀ f ∈ fs, 0 ≤ f) (hb : 0 ≤ b) (hr : 0 ≤ r) (N : Nat) (a m : Nat) (hl : a + m ≤ N) : ws (gone b r fs N) a m ≤ b + r * m := by
  have pg : ∀ n, n ≤ N → pf (gone b r fs N) n = (gone b r fs n).sum := fun n hn => by
    unfold pf gone
    rw [← List.map_take, List.take_range, Nat.min_eq_left hn]
  have key : ∀ k, a + k ≤ N → (gone b r fs (a + k)).sum - (gone b r fs a).sum ≤ (sim b r fs a).f - (sim b r fs (a + k)).f + r * k := by
    intro k
    induction k with
    | zero => intro _; simp
    | succ k ih =>
      intro hk
      have ih := ih (by omega)
      have hf := sim_f b r fs (a + k)
      have m1 := mn_le (b + r) ((sim b r fs (a + k)).f - go b r fs (a + k) + r)
      rw [← hf] at m1
      have e : a + (k + 1) = a + k + 1 := by omega
      rw [e, gone_succ, sum_app']
      have e2 : r * ((k + 1 : Nat) : Int) = r * k + r := by rw [Int.natCast_add, Int.mul_add]; simp
      rw [e2]
      simp
      omega
  rw [ws_pf, pg _ hl, pg _ (by omega)]
  cases m with
  | zero => simp; omega
  | succ k =>
    have hk := key k (by omega)
    have hg := go_pos hp hb hr (a + k)
    have hs := sim_inv hp hb hr a
    have e : a + (k + 1) = a + k + 1 := by omega
    rw [e, gone_succ, sum_app']
    have e2 : r * ((k + 1 : Nat) : Int) = r * k + r := by rw [Int.natCast_add, Int.mul_add]; simp
    rw [e2]
    simp
    omega
/-! nothing comes anew -/
theorem dry_inv {b : Int} {fs : List Int} (hp : ∀ f ∈ fs, 0 ≤ f) (hb : 0 ≤ b) : ∀ n, pf fs n ≤ b → (sim b 0 fs n).w = 0 ∧ (sim b 0 fs n).f = b - pf fs n
  | 0, _ => ⟨rfl, by show b + 0 = b - 0; omega⟩
  | n + 1, h => by
    have e := pf_next fs n
    have hx := getD_pos hp n
    obtain ⟨h1, h2⟩ := dry_inv hp hb n (by omega)
    have hg : go b 0 fs n = fs.getD n 0 := by rw [go_eq, h1, h2]; unfold mn; split <;> omega
    have hw := sim_w b 0 fs n
    have hf := sim_f b 0 fs n
    rw [hg, h2] at hf
    rw [hg, h1] at hw
    have hpf : 0 ≤ pf fs n := by have := pf_mono hp (Nat.zero_le n); rw [pf_0] at this; exact this
    refine ⟨by omega, ?_⟩
    rw [hf]; unfold mn; split <;> omega
theorem dry_bad {b : Int} {fs : List Int} (hp : ∀ f ∈ fs, 0 ≤ f) (hb : 0 ≤ b) (hs : b < fs.sum) : ∃ N, N < fs.length ∧ (∀ n, n < N → on b 0 fs n ∧ ¬ bad b 0 fs n) ∧ on b 0 fs N ∧ bad b 0 fs N := by
  have hl := pf_len fs
  obtain ⟨M, h1, h2, h3⟩ := least_of (P := fun n => b < pf fs n) (n := fs.length) (by rw [hl]; exact hs)
  have hM : M ≠ 0 := fun e => by rw [e, pf_0] at h2; omega
  obtain ⟨N, rfl⟩ : ∃ N, M = N + 1 := ⟨M - 1, by omega⟩
  have hle : ∀ n, n ≤ N → pf fs n ≤ b := fun n hn => by have := h3 n (by omega); omega
  refine ⟨N, by omega, fun n hn => ⟨.inl (by omega), fun hbad => ?_⟩, .inl (by omega), ?_⟩
  · have := (dry_inv hp hb (n + 1) (hle _ (by omega))).1
    have := hbad.1
    omega
  · obtain ⟨q1, q2⟩ := dry_inv hp hb N (hle N (Nat.le_refl _))
    have e := pf_next fs N
    have hpf : 0 ≤ pf fs N := by have := pf_mono hp (Nat.zero_le N); rw [pf_0] at this; exact this
    have hg : go b 0 fs N = (sim b 0 fs N).f := by rw [go_eq, q1, q2]; unfold mn; split <;> omega
    have hw := sim_w b 0 fs N
    have hf := sim_f b 0 fs N
    rw [hg] at hf hw
    refine ⟨by omega, rfl, ?_⟩
    rw [hf]; unfold mn; split <;> omega
/-- without a rate the least burst is all -/
theorem isB_zero {fs : List Int} (hp : ∀ f ∈ fs, 0 ≤ f) : IsB fs 0 fs.sum := by
  have e : ∀ n, Fr fs 0 n = pf fs n := fun n => by unfold Fr; simp
  constructor
  · intro a c hac hc
    rw [e, e]
    have h1 := pf_mono hp (Nat.zero_le a)
    have h2 := pf_mono hp hc
    rw [pf_0] at h1
    rw [pf_len] at h2
    omega
  · exact ⟨0, fs.length, by omega, Nat.le_refl _, by rw [e, e, pf_len, pf_0]; omega⟩
end G50
set_option maxHeartbeats 2000000
/-! R50h: the greatest over windows: _law_late, held. -/
namespace G50
open PySem PySem.Spec PyProof.Rows L2 Pv
/-- the greatest of some numbers -/
structure Mx (P : Int → Prop) (M : Int) : Prop where
  le : ∀ x, P x → x ≤ M
  at_ : P M
theorem Mx.uniq {P Q : Int → Prop} {M N : Int} (h : Mx P M) (h' : Mx Q N) (e : ∀ x, P x ↔ Q x) : M = N := by
  have h1 := h'.le M ((e M).mp h.at_)
  have h2 := h.le N ((e N).mpr h'.at_)
  omega
theorem Mx.to {P Q : Int → Prop} {M : Int} (h : Mx P M) (e : ∀ x, P x ↔ Q x) : Mx Q M := ⟨fun x hx => h.le x ((e x).mpr hx), (e M).mp h.at_⟩
theorem mx_step {P : Int → Prop} {M : Int} (v : Int) (h : Mx P M) : Mx (fun x => P x ∨ x = v) (if M < v then v else M) := by
  refine ⟨fun x hx => ?_, ?_⟩
  · rcases hx with hx | rfl
    · have := h.le x hx
      split <;> omega
    · split <;> omega
  · split
    · exact .inr rfl
    · exact .inl h.at_
theorem mx_max {ns : List Int} (h : ns ≠ []) : Mx (fun x => x ∈ ns) (maxI ns) := ⟨(maxI_spec h).2, (maxI_spec h).1⟩
/-- all (a, t) with a ≤ t < i, C t -/
def Dbl (V : Nat → Nat → Int) (C : Nat → Prop) (i : Nat) (x : Int) : Prop := x = 0 ∨ ∃ t a, t < i ∧ C t ∧ a ≤ t ∧ x = V a t
def DblI (V : Nat → Nat → Int) (C : Nat → Prop) (i j : Nat) (x : Int) : Prop := Dbl V C i x ∨ ∃ a, a < j ∧ x = V a i
section
variable {V : Nat → Nat → Int} {C : Nat → Prop} {i j : Nat} {M : Int}
theorem dbl_0 : Mx (Dbl V C 0) 0 := ⟨fun x hx => by
  rcases hx with rfl | ⟨t, a, h, _⟩
  · exact Int.le_refl _
  · exact absurd h (Nat.not_lt_zero _), .inl rfl⟩
theorem dbl_in (h : Mx (Dbl V C i) M) : Mx (DblI V C i 0) M := h.to fun x => ⟨.inl, fun h => h.elim id fun ⟨a, ha, _⟩ => absurd ha (Nat.not_lt_zero _)⟩
theorem dbl_st (h : Mx (DblI V C i j) M) : Mx (DblI V C i (j + 1)) (if M < V j i then V j i else M) := (mx_step (V j i) h).to fun x => ⟨fun h => by
    rcases h with (h | ⟨a, ha, e⟩) | e
    · exact .inl h
    · exact .inr ⟨a, by omega, e⟩
    · exact .inr ⟨j, by omega, e⟩, fun h => by
    rcases h with h | ⟨a, ha, e⟩
    · exact .inl (.inl h)
    · by_cases hj : a < j
      · exact .inl (.inr ⟨a, hj, e⟩)
      · have : a = j := by omega
        subst this
        exact .inr e⟩
theorem dbl_out (hc : C i) (h : Mx (DblI V C i (i + 1)) M) : Mx (Dbl V C (i + 1)) M := h.to fun x => ⟨fun h => by
    rcases h with (e | ⟨t, a, h1, h2, h3, e⟩) | ⟨a, ha, e⟩
    · exact .inl e
    · exact .inr ⟨t, a, by omega, h2, h3, e⟩
    · exact .inr ⟨i, a, by omega, hc, by omega, e⟩, fun h => by
    rcases h with e | ⟨t, a, h1, h2, h3, e⟩
    · exact .inl (.inl e)
    · by_cases ht : t < i
      · exact .inl (.inr ⟨t, a, ht, h2, h3, e⟩)
      · have : t = i := by omega
        subst this
        exact .inr ⟨a, by omega, e⟩⟩
theorem dbl_skip (hc : ¬ C i) (h : Mx (Dbl V C i) M) : Mx (Dbl V C (i + 1)) M := h.to fun x => ⟨fun h => by
    rcases h with e | ⟨t, a, h1, h2, h3, e⟩
    · exact .inl e
    · exact .inr ⟨t, a, by omega, h2, h3, e⟩, fun h => by
    rcases h with e | ⟨t, a, h1, h2, h3, e⟩
    · exact .inl e
    · by_cases ht : t < i
      · exact .inr ⟨t, a, ht, h2, h3, e⟩
      · have : t = i := by omega
        subst this
        exact absurd h2 hc⟩
end
/-- late, held: what windows tell -/
def lateV (fs : List Int) (r l : Int) (a t : Nat) : Int := l + -(-ws fs a (t + 1 - a) / r) - ((t : Int) - (a : Int) + 1)
def heldV (fs : List Int) (r l : Int) (a t : Nat) : Int := ws fs a (t + 1 - a) - sv1 r l ((t : Int) - (a : Int))
def LateP (fs : List Int) (r l : Int) : Int → Prop := Dbl (lateV fs r l) (fun t => 0 < fs.getD t 0) fs.length
def HeldP (fs : List Int) (r l : Int) : Int → Prop := Dbl (heldV fs r l) (fun _ => True) fs.length
theorem cut_ws (fs : List Int) (a t : Nat) (h : a ≤ t) (ht : t < fs.length) : cutL (fs.map PyData.int) (some (a : Int)) (some ((t : Int) + 1)) = ((fs.drop a).take (t + 1 - a)).map PyData.int := by
  have := cut_mid (fs.map PyData.int) a (t + 1) (by rw [List.length_map]; omega) (by omega)
  rw [show ((t + 1 : Nat) : Int) = (t : Int) + 1 by omega] at this
  rw [this, List.map_take, List.map_drop]
theorem cdiv_r {r : Int} (hr : 1 ≤ r ∧ r ≤ 100) (x : Int) : CDiv x r := ⟨by omega, by omega⟩
theorem r_lateby (S : Sto) (r l x t : Int) (hr : 1 ≤ r ∧ r ≤ 100) : m_late_by [.p (prD r l), .p (.int x), .p (.int t)] S = some (.p (.int (l + -(-x / r) - t)), S) := by
  have dv := cdiv_r hr
  obtain ⟨d, rfl, h⟩ : ∃ d, d = PyData.int (l + -(-x / r) - t) ∧ m_late_by [.p (prD r l), .p (.int x), .p (.int t)] S = some (.p d, S) := by
    refine of_key (b := b_late_by) ?_
    unfold b_late_by
    exact rn_ret (v := .p (.int (l + -(-x / r) - t))) (S' := S) (by simp -implicitDefEqProofs [dv]) ⟨_, rfl, rfl, [], by simp⟩
  exact h
theorem r_lawlate (S : Sto) (fs : List Int) (r l : Int) (hl : fs.length ≤ 500) (hr : 1 ≤ r ∧ r ≤ 100) : ∃ M, Mx (LateP fs r l) M ∧ m__law_late [.p (prD r l), .p (tI fs)] S = some (.p (.int M), S) := by
  have dv := cdiv_r hr
  have tl : S.take S.length = S := List.take_length
  obtain ⟨d, ⟨M, rfl, hM⟩, h⟩ : ∃ d, (∃ M, d = PyData.int M ∧ Mx (LateP fs r l) M) ∧ m__law_late [.p (prD r l), .p (tI fs)] S = some (.p d, S) := by
    refine of_key (b := b__law_late) ?_
    unfold b__law_late
    refine rn_seq (env' := [some (.p (prD r l)), some (.p (tI fs)), some (.p (.int 0)), none, none, none, none]) (S' := S) (by simp -implicitDefEqProofs) ?_
    refine rn_seq2 (rn_for (xs := enumD (fs.map PyData.int)) (S1 := S) (gd := []) (by simp -implicitDefEqProofs) (fun i e s => s = S ∧ ∃ (M : Int) (o3 o4 o5 o6 : Option D), e = [some (.p (prD r l)), some (.p (tI fs)), some (.p (.int M)), o3.map T.p, o4.map T.p, o5.map T.p, o6.map T.p] ∧ Mx (Dbl (lateV fs r l) (fun t => 0 < fs.getD t 0) i) M) (fun _ _ _ _ => gd_nil) ⟨rfl, 0, none, none, none, none, rfl, dbl_0⟩ (fun i x e s hx ⟨hs, M, o3, o4, o5, o6, he, hM⟩ => ?_) (fun e s ⟨hs, M, o3, o4, o5, o6, he, hM⟩ => ?_))
    · subst hs he
      obtain ⟨x', hx', rfl⟩ := enumD_get hx
      rw [List.getElem?_map] at hx'
      obtain ⟨v, hv, rfl⟩ := Option.map_eq_some_iff.mp hx'
      have hlt : i < fs.length := (List.getElem?_eq_some_iff.mp hv).1
      have hgd : fs.getD i 0 = v := by rw [List.getD_eq_getElem?_getD, hv]; rfl
      refine ⟨[some (.p (prD r l)), some (.p (tI fs)), some (.p (.int M)), some (.p (.int (i : Int))), some (.p (.int v)), o5.map T.p, o6.map T.p], s, by simp, ?_⟩
      refine rn_if (S' := s) (b := decide (0 < v)) (by simp -implicitDefEqProofs) (fun hb => ?_) (fun hb => ?_)
      · have hv0 := of_decide_eq_true hb
        rw [tl]
        refine rn_forT (ys := List.range (i + 1)) (emb := natI) (S1 := s) (gd := []) (i_rangeN (by simp -implicitDefEqProofs) (by omega)) (fun j e s' => s' = s ∧ ∃ (M : Int) (o5 o6 : Option D), e = [some (.p (prD r l)), some (.p (tI fs)), some (.p (.int M)), some (.p (.int (i : Int))), some (.p (.int v)), o5.map T.p, o6.map T.p] ∧ Mx (DblI (lateV fs r l) (fun t => 0 < fs.getD t 0) i j) M) (fun _ _ _ _ => gd_nil) ⟨rfl, M, o5, o6, rfl, dbl_in hM⟩ (fun j z e s' hz ⟨hs, M, o5, o6, he, hM⟩ => ?_) (fun e s' ⟨hs, M, o5, o6, he, hM⟩ => ?_)
        · subst hs he
          obtain ⟨rfl, hj⟩ := range_at hz
          have cut := cut_ws fs z i (by omega) hlt
          have hws : ((fs.drop z).take (i + 1 - z)).sum = ws fs z (i + 1 - z) := rfl
          have st := dbl_st hM
          refine ⟨[some (.p (prD r l)), some (.p (tI fs)), some (.p (.int M)), some (.p (.int (i : Int))), some (.p (.int v)), some (.p (natI z)), o6.map T.p], s', by simp, ?_⟩
          refine rn_seq (env' := [some (.p (prD r l)), some (.p (tI fs)), some (.p (.int M)), some (.p (.int (i : Int))), some (.p (.int v)), some (.p (natI z)), some (.p (.int (ws fs z (i + 1 - z))))]) (S' := s') (by simp -implicitDefEqProofs [-List.map_take, -List.map_drop, sliceF, someO, slT, natI, cut, hws]) ?_
          refine rn_nx (env' := [some (.p (prD r l)), some (.p (tI fs)), some (.p (.int (if M < lateV fs r l z i then lateV fs r l z i else M))), some (.p (.int (i : Int))), some (.p (.int v)), some (.p (natI z)), some (.p (.int (ws fs z (i + 1 - z))))]) (S' := s') (by simp -implicitDefEqProofs [natI, dv, lateV]; rfl) ?_
          exact ⟨tl, _, some (natI z), some (.int (ws fs z (i + 1 - z))), by simp -implicitDefEqProofs [forget], st⟩
        · subst hs he
          exact ⟨by simp, M, some (.int (i : Int)), some (.int v), o5, o6, by simp -implicitDefEqProofs [forget], by
            rw [List.length_range] at hM
            exact dbl_out (by show 0 < fs.getD i 0; rw [hgd]; exact hv0) hM⟩
      · have hv0 := of_decide_eq_false hb
        rw [tl]
        exact rn_nx (env' := [some (.p (prD r l)), some (.p (tI fs)), some (.p (.int M)), some (.p (.int (i : Int))), some (.p (.int v)), o5.map T.p, o6.map T.p]) (S' := s) rfl ⟨tl, M, some (.int (i : Int)), some (.int v), o5, o6, by simp -implicitDefEqProofs [forget], dbl_skip (by show ¬ 0 < fs.getD i 0; rw [hgd]; exact hv0) hM⟩
    · subst hs he
      have e1 : (enumD (fs.map PyData.int)).length = fs.length := by
        have := enumG_len (fs.map PyData.int) 0
        unfold enumD
        rw [this, List.length_map]
      rw [e1] at hM
      exact rn_ret (v := .p (.int M)) (S' := s) (by simp -implicitDefEqProofs [forget]) ⟨_, rfl, ⟨M, rfl, hM⟩, [], by simp⟩
  exact ⟨M, hM, h⟩
theorem r_held (S : Sto) (fs : List Int) (r l : Int) (F : Tr fs) (hr : 0 ≤ r ∧ r ≤ 100) (hl : 0 ≤ l ∧ l ≤ 200) : ∃ M, Mx (HeldP fs r l) M ∧ m_held [.p (prD r l), .p (tI fs)] S = some (.p (.int M), S) := by
  have hfl := F.len
  have a1 := r_server S r l hr hl
  have a2 := r_traffic S fs F
  have tl : S.take S.length = S := List.take_length
  obtain ⟨d, ⟨M, rfl, hM⟩, h⟩ : ∃ d, (∃ M, d = PyData.int M ∧ Mx (HeldP fs r l) M) ∧ m_held [.p (prD r l), .p (tI fs)] S = some (.p d, S) := by
    refine of_key (b := b_held) ?_
    unfold b_held
    refine rn_seq (env' := [some (.p (prD r l)), some (.p (tI fs)), none, none, none]) (S' := S) (by simp -implicitDefEqProofs [a1]) ?_
    refine rn_seq (env' := [some (.p (prD r l)), some (.p (tI fs)), none, none, none]) (S' := S) (by simp -implicitDefEqProofs [a2]) ?_
    refine rn_seq (env' := [some (.p (prD r l)), some (.p (tI fs)), some (.p (.int 0)), none, none]) (S' := S) (by simp -implicitDefEqProofs) ?_
    refine rn_seq2 (rn_forT (ys := List.range fs.length) (emb := natI) (S1 := S) (gd := []) (i_rangeN (by simp -implicitDefEqProofs) (by omega)) (fun i e s => s = S ∧ ∃ (M : Int) (o3 o4 : Option D), e = [some (.p (prD r l)), some (.p (tI fs)), some (.p (.int M)), o3.map T.p, o4.map T.p] ∧ Mx (Dbl (heldV fs r l) (fun _ => True) i) M) (fun _ _ _ _ => gd_nil) ⟨rfl, 0, none, none, rfl, dbl_0⟩ (fun i x e s hx ⟨hs, M, o3, o4, he, hM⟩ => ?_) (fun e s ⟨hs, M, o3, o4, he, hM⟩ => ?_))
    · subst hs he
      obtain ⟨rfl, hlt⟩ := range_at hx
      refine ⟨[some (.p (prD r l)), some (.p (tI fs)), some (.p (.int M)), some (.p (natI x)), o4.map T.p], s, by simp, ?_⟩
      refine rn_forT (ys := List.range (x + 1)) (emb := natI) (S1 := s) (gd := []) (i_rangeN (by simp -implicitDefEqProofs [natI]) (by omega)) (fun j e s' => s' = s ∧ ∃ (M : Int) (o4 : Option D), e = [some (.p (prD r l)), some (.p (tI fs)), some (.p (.int M)), some (.p (natI x)), o4.map T.p] ∧ Mx (DblI (heldV fs r l) (fun _ => True) x j) M) (fun _ _ _ _ => gd_nil) ⟨rfl, M, o4, rfl, dbl_in hM⟩ (fun j z e s' hz ⟨hs, M, o4, he, hM⟩ => ?_) (fun e s' ⟨hs, M, o4, he, hM⟩ => ?_)
      · subst hs he
        obtain ⟨rfl, hj⟩ := range_at hz
        have cut := cut_ws fs z x (by omega) hlt
        have hws : ((fs.drop z).take (x + 1 - z)).sum = ws fs z (x + 1 - z) := rfl
        have st := dbl_st hM
        have a3 := r_served s' r l ((x : Int) - (z : Int)) hr
        refine ⟨[some (.p (prD r l)), some (.p (tI fs)), some (.p (.int M)), some (.p (natI x)), some (.p (natI z))], s', by simp, ?_⟩
        refine rn_nx (env' := [some (.p (prD r l)), some (.p (tI fs)), some (.p (.int (if M < heldV fs r l z x then heldV fs r l z x else M))), some (.p (natI x)), some (.p (natI z))]) (S' := s') (by simp -implicitDefEqProofs [-List.map_take, -List.map_drop, sliceF, someO, slT, natI, cut, hws, a3, heldV]; rfl) ?_
        exact ⟨tl, _, some (natI z), by simp -implicitDefEqProofs [forget], st⟩
      · subst hs he
        exact ⟨by simp, M, some (natI x), o4, by simp -implicitDefEqProofs [forget], by
          rw [List.length_range] at hM
          exact dbl_out trivial hM⟩
    · subst hs he
      rw [List.length_range] at hM
      exact rn_ret (v := .p (.int M)) (S' := s) (by simp -implicitDefEqProofs [forget]) ⟨_, rfl, ⟨M, rfl, hM⟩, [], by simp⟩
  exact ⟨M, hM, h⟩
end G50
set_option maxHeartbeats 2000000
/-! R50i: told_passed, lateness. -/
namespace G50
open PySem PySem.Spec PyProof.Rows L2 Pv
/-- the ends that told_passed keeps for t, from the first j starts -/
def endL (fs : List Int) (r l : Int) (t : Nat) : Nat → List Int
  | 0 => [(t : Int)]
  | j + 1 => if 0 < ws fs j (t + 1 - j) then endL fs r l t j ++ [(t : Int) + lateV fs r l j t] else endL fs r l t j
theorem endL_len (fs : List Int) (r l : Int) (t : Nat) : ∀ j, (endL fs r l t j).length ≤ j + 1
  | 0 => Nat.le_refl _
  | j + 1 => by
    have := endL_len fs r l t j
    rw [endL]
    split
    · rw [List.length_append]; simp; omega
    · omega
theorem endL_ne (fs : List Int) (r l : Int) (t : Nat) : ∀ j, endL fs r l t j ≠ []
  | 0 => by simp -implicitDefEqProofs [endL]
  | j + 1 => by
    have := endL_ne fs r l t j
    rw [endL]
    split
    · simp
    · exact this
theorem mem_endL {fs : List Int} {r l : Int} {t : Nat} {x : Int} : ∀ {j : Nat}, x ∈ endL fs r l t j ↔ x = t ∨ ∃ a, a < j ∧ 0 < ws fs a (t + 1 - a) ∧ x = (t : Int) + lateV fs r l a t
  | 0 => by simp -implicitDefEqProofs [endL]
  | j + 1 => by
    have ih := mem_endL (fs := fs) (r := r) (l := l) (t := t) (x := x) (j := j)
    rw [endL]
    split
    · next h =>
      rw [List.mem_append, ih, List.mem_singleton]
      constructor
      · rintro ((h | ⟨a, h1, h2, h3⟩) | h3)
        · exact .inl h
        · exact .inr ⟨a, by omega, h2, h3⟩
        · exact .inr ⟨j, by omega, h, h3⟩
      · rintro (h | ⟨a, h1, h2, h3⟩)
        · exact .inl (.inl h)
        · by_cases ha : a < j
          · exact .inl (.inr ⟨a, ha, h2, h3⟩)
          · have : a = j := by omega
            subst this
            exact .inr h3
    · next h =>
      rw [ih]
      constructor
      · rintro (h | ⟨a, h1, h2, h3⟩)
        · exact .inl h
        · exact .inr ⟨a, by omega, h2, h3⟩
      · rintro (h4 | ⟨a, h1, h2, h3⟩)
        · exact .inl h4
        · by_cases ha : a < j
          · exact .inr ⟨a, ha, h2, h3⟩
          · have : a = j := by omega
            subst this
            exact absurd h2 h
theorem keepN {M k : Nat} (h : M ≤ k) : keepSlot M (some (.loc k)) = none := by
  have : ¬ k < M := by omega
  simp -implicitDefEqProofs [keepSlot, below, this]
def endI (fs : List Int) (r l : Int) (t : Nat) : Int := maxI (endL fs r l t (t + 1))
abbrev tpE (fs : List Int) (r l : Int) (x3 x4 x5 x6 : Option T) : Pv.Env := [some (.p (prD r l)), some (.p (tI fs)), some (.loc 2), x3, x4, x5, x6]
theorem r_toldpassed (C p : O) (fs : List Int) (r l : Int) (hl : fs.length ≤ 500) (hr : 1 ≤ r ∧ r ≤ 100) : m_told_passed [.p (prD r l), .p (tI fs)] [C, p] = some (.loc 2, [C, p, .lst (((List.range fs.length).map (endI fs r l)).map PyData.int)]) := by
  have key : Rn (b_told_passed 2 [some (.p (prD r l)), some (.p (tI fs)), none, none, none, none, none] [C, p]) fun o e s => o = .rt (.loc 2) ∧ s = [C, p, .lst (((List.range fs.length).map (endI fs r l)).map PyData.int)] := by
    unfold b_told_passed
    refine rn_seq (env' := tpE fs r l none none none none) (S' := [C, p, .lst []]) (by simp -implicitDefEqProofs [allP, putLoc, gcV, gcT, gcOb]) ?_
    refine rn_seq2 (rn_forT (ys := List.range fs.length) (emb := natI) (S1 := [C, p, .lst []]) (gd := []) (i_rangeN (by simp -implicitDefEqProofs) (by omega)) (fun i e s => s = [C, p, .lst (((List.range i).map (endI fs r l)).map PyData.int)] ∧ ∃ o3 o5 o6 : Option D, e = tpE fs r l (o3.map T.p) none (o5.map T.p) (o6.map T.p)) (fun _ _ _ _ => gd_nil) ⟨rfl, none, none, none, rfl⟩ (fun i x e s hx ⟨hs, o3, o5, o6, he⟩ => ?_) (fun e s ⟨hs, o3, o5, o6, he⟩ => ?_))
    · subst hs he
      obtain ⟨rfl, hlt⟩ := range_at hx
      have hfl : (((List.range x).map (endI fs r l)).map PyData.int).length < sizeLine := by rw [sizeLine_eq]; simp; omega
      have hnx : ((List.range (x + 1)).map (endI fs r l)).map PyData.int = ((List.range x).map (endI fs r l)).map PyData.int ++ [.int (endI fs r l x)] := by rw [List.range_succ, List.map_append, List.map_append]; rfl
      rw [hnx]
      generalize ((List.range x).map (endI fs r l)).map PyData.int = F at hfl
      refine ⟨tpE fs r l (some (.p (natI x))) none (o5.map T.p) (o6.map T.p), [C, p, .lst F], by simp, ?_⟩
      refine rn_seq (env' := tpE fs r l (some (.p (natI x))) (some (.loc 3)) (o5.map T.p) (o6.map T.p)) (S' := [C, p, .lst F, .lst ((endL fs r l x 0).map PyData.int)]) (by simp -implicitDefEqProofs [allP, putLoc, gcV, gcT, gcOb, endL, natI]) ?_
      refine rn_seq2 (rn_forT (ys := List.range (x + 1)) (emb := natI) (S1 := [C, p, .lst F, .lst ((endL fs r l x 0).map PyData.int)]) (gd := []) (i_rangeN (by simp -implicitDefEqProofs [natI]) (by omega)) (fun j e s => s = [C, p, .lst F, .lst ((endL fs r l x j).map PyData.int)] ∧ ∃ o5 o6 : Option D, e = tpE fs r l (some (.p (natI x))) (some (.loc 3)) (o5.map T.p) (o6.map T.p)) (fun _ _ _ _ => gd_nil) ⟨rfl, o5, o6, rfl⟩ (fun j z e s hz ⟨hs, o5, o6, he⟩ => ?_) (fun e s ⟨hs, o5, o6, he⟩ => ?_))
      · subst hs he
        obtain ⟨rfl, hj⟩ := range_at hz
        have cut := cut_ws fs z x (by omega) hlt
        have hws : ((fs.drop z).take (x + 1 - z)).sum = ws fs z (x + 1 - z) := rfl
        have hel := endL_len fs r l x z
        have hnx2 : endL fs r l x (z + 1) = if 0 < ws fs z (x + 1 - z) then endL fs r l x z ++ [(x : Int) + lateV fs r l z x] else endL fs r l x z := rfl
        have a1 := fun S => r_lateby S r l (ws fs z (x + 1 - z)) ((x : Int) - (z : Int) + 1) hr
        have hlv : l + -(-ws fs z (x + 1 - z) / r) - ((x : Int) - (z : Int) + 1) = lateV fs r l z x := rfl
        rw [hlv] at a1
        rw [hnx2]
        generalize lateV fs r l z x = v at *
        generalize endL fs r l x z = L at *
        refine ⟨tpE fs r l (some (.p (natI x))) (some (.loc 3)) (some (.p (natI z))) (o6.map T.p), [C, p, .lst F, .lst (L.map PyData.int)], by simp, ?_⟩
        refine rn_seq (env' := tpE fs r l (some (.p (natI x))) (some (.loc 3)) (some (.p (natI z))) (some (.p (.int (ws fs z (x + 1 - z)))))) (S' := [C, p, .lst F, .lst (L.map PyData.int)]) (by simp -implicitDefEqProofs [-List.map_take, -List.map_drop, sliceF, someO, slT, natI, cut, hws]) ?_
        generalize ws fs z (x + 1 - z) = w at *
        have hz2 : (L.map PyData.int).length < sizeLine := by rw [sizeLine_eq, List.length_map]; omega
        refine rn_if (S' := [C, p, .lst F, .lst (L.map PyData.int)]) (b := decide (0 < w)) (by simp -implicitDefEqProofs) (fun hb => ?_) (fun hb => ?_)
        · have hw := of_decide_eq_true hb
          rw [if_pos hw]
          have em : (L ++ [(x : Int) + v]).map PyData.int = L.map PyData.int ++ [.int ((x : Int) + v)] := by rw [List.map_append]; rfl
          rw [em]
          generalize L.map PyData.int = L' at *
          exact rn_nx (env' := tpE fs r l (some (.p (natI x))) (some (.loc 3)) (some (.p (natI z))) (some (.p (.int w)))) (S' := [C, p, .lst F, .lst (L' ++ [.int ((x : Int) + v)])]) (by simp -implicitDefEqProofs [natI, a1, hz2]) ⟨rfl, some (natI z), some (.int w), by simp -implicitDefEqProofs [forget]⟩
        · have hw := of_decide_eq_false hb
          rw [if_neg hw]
          exact rn_nx (env' := tpE fs r l (some (.p (natI x))) (some (.loc 3)) (some (.p (natI z))) (some (.p (.int w)))) (S' := [C, p, .lst F, .lst (L.map PyData.int)]) rfl ⟨rfl, some (natI z), some (.int w), by simp -implicitDefEqProofs [forget]⟩
      · subst hs he
        rw [List.length_range]
        have q2 := e_maxL (S := [C, p, .lst F, .lst ((endL fs r l x (x + 1)).map PyData.int)]) (i := 3) (ns := endL fs r l x (x + 1)) rfl (endL_ne _ _ _ _ _)
        have hmx : maxI (endL fs r l x (x + 1)) = endI fs r l x := rfl
        rw [hmx] at q2
        generalize (endL fs r l x (x + 1)).map PyData.int = L' at *
        exact rn_nx (env' := tpE fs r l (some (.p (natI x))) (some (.loc 3)) (o5.map T.p) (o6.map T.p)) (S' := [C, p, .lst (F ++ [.int (endI fs r l x)]), .lst L']) (by simp -implicitDefEqProofs [forget, q2, hfl]) ⟨rfl, some (natI x), o5, o6, by simp -implicitDefEqProofs [forget, keepN (M := 3) (k := 3) (Nat.le_refl _)]⟩
    · subst hs he
      rw [List.length_range]
      exact rn_ret (v := .loc 2) (S' := [C, p, .lst (((List.range fs.length).map (endI fs r l)).map PyData.int)]) (by simp -implicitDefEqProofs [forget]) ⟨rfl, rfl⟩
  obtain ⟨o, e, s, h1, rfl, rfl⟩ := key
  exact m_ret h1 (by simp -implicitDefEqProofs [gcV, gcT, gcOb])
theorem enumD_map {α : Type} (f : α → D) (xs : List α) (d : α) : enumD (xs.map f) = (List.range xs.length).map fun i : Nat => PyData.tuple [.int (i : Int), f (xs.getD i d)] := by
  have hl : (enumD (xs.map f)).length = xs.length := by
    have := enumG_len (xs.map f) 0
    unfold enumD
    rw [this, List.length_map]
  refine List.ext_getElem? fun i => ?_
  by_cases hi : i < xs.length
  · obtain ⟨x, hx⟩ : ∃ x, (enumD (xs.map f))[i]? = some x := ⟨_, List.getElem?_eq_getElem (by omega)⟩
    obtain ⟨x', h1, h2⟩ := enumD_get hx
    rw [List.getElem?_map, List.getElem?_eq_getElem hi, Option.map_some] at h1
    have hd : xs.getD i d = xs[i] := by rw [List.getD_eq_getElem?_getD, List.getElem?_eq_getElem hi]; rfl
    rw [hx, List.getElem?_map, List.getElem?_range hi, Option.map_some, h2, ← Option.some.inj h1, hd]
  · rw [List.getElem?_eq_none (by omega), List.getElem?_eq_none (by rw [List.length_map, List.length_range]; omega)]
theorem ws_nn {fs : List Int} (hp : ∀ f ∈ fs, 0 ≤ f) (a m : Nat) : 0 ≤ ws fs a m := by
  rw [ws_pf]
  have := pf_mono hp (Nat.le_add_right a m)
  omega
theorem ws_last {fs : List Int} (hp : ∀ f ∈ fs, 0 ≤ f) {a t : Nat} (h : a ≤ t) (ht : t < fs.length) : fs.getD t 0 ≤ ws fs a (t + 1 - a) := by
  have hx := getD_some ht
  have e : t + 1 - a = (t - a) + 1 := by omega
  rw [e, ws_succ (by rw [show a + (t - a) = t by omega]; exact hx)]
  have := ws_nn hp a (t - a)
  omega
theorem late_mx {fs : List Int} {r l : Int} (hp : ∀ f ∈ fs, 0 ≤ f) : Mx (LateP fs r l) (maxI (0 :: ((List.range fs.length).filter fun t => decide (0 < fs.getD t 0)).map fun t => endI fs r l t - (t : Int))) := by
  obtain ⟨h1, h2⟩ := mx_max (ns := 0 :: ((List.range fs.length).filter fun t => decide (0 < fs.getD t 0)).map fun t => endI fs r l t - (t : Int)) (by simp -implicitDefEqProofs)
  generalize maxI (0 :: ((List.range fs.length).filter fun t => decide (0 < fs.getD t 0)).map fun t => endI fs r l t - (t : Int)) = M at h1 h2
  refine ⟨fun x hx => ?_, ?_⟩
  · rcases hx with rfl | ⟨t, a, ht, hc, ha, rfl⟩
    · exact h1 0 List.mem_cons_self
    · have q1 := h1 (endI fs r l t - (t : Int)) (List.mem_cons_of_mem _ (List.mem_map.mpr ⟨t, List.mem_filter.mpr ⟨List.mem_range.mpr ht, decide_eq_true hc⟩, rfl⟩))
      have q2 := (mx_max (endL_ne fs r l t (t + 1))).le ((t : Int) + lateV fs r l a t) (mem_endL.mpr (.inr ⟨a, by omega, by
        have := ws_last hp ha ht
        omega, rfl⟩))
      have : endI fs r l t = maxI (endL fs r l t (t + 1)) := rfl
      omega
  · rcases List.mem_cons.mp h2 with h2 | h2
    · exact .inl h2
    · obtain ⟨t, ht, e⟩ := List.mem_map.mp h2
      obtain ⟨ht, hc⟩ := List.mem_filter.mp ht
      rw [List.mem_range] at ht
      have hc := of_decide_eq_true hc
      have q := (mx_max (endL_ne fs r l t (t + 1))).at_
      have ee : endI fs r l t = maxI (endL fs r l t (t + 1)) := rfl
      rcases mem_endL.mp q with q | ⟨a, q1, q2, q3⟩
      · exact .inl (by omega)
      · exact .inr ⟨t, a, ht, hc, by omega, by omega⟩
end G50
set_option maxHeartbeats 2000000
/-! R50i2: told_passed, lateness. -/
namespace G50
open PySem PySem.Spec PyProof.Rows L2 Pv
theorem r_lateness0 (C p : O) (fs : List Int) (l : Int) (F : Tr fs) (hl : 0 ≤ l ∧ l ≤ 200) : m_lateness [.p (prD 0 l), .p (tI fs)] [C, p] = some (.p (if 0 < fs.sum then .none else .int 0), [C, p]) := by
  have a1 := r_server [C, p] 0 l (by omega) hl
  have a2 := r_traffic [C, p] fs F
  obtain ⟨d, rfl, h⟩ : ∃ d, d = (if 0 < fs.sum then PyData.none else .int 0) ∧ m_lateness [.p (prD 0 l), .p (tI fs)] [C, p] = some (.p d, [C, p]) := by
    refine of_key (b := b_lateness) ?_
    unfold b_lateness
    refine rn_seq (env' := [some (.p (prD 0 l)), some (.p (tI fs)), none, none]) (S' := [C, p]) (by simp -implicitDefEqProofs [a1]) ?_
    refine rn_seq (env' := [some (.p (prD 0 l)), some (.p (tI fs)), none, none]) (S' := [C, p]) (by simp -implicitDefEqProofs [a2]) ?_
    refine rn_seq2 (rn_if1 (S' := [C, p]) (by simp -implicitDefEqProofs) ?_)
    by_cases hs : 0 < fs.sum
    · exact rn_ret (v := .p .none) (S' := [C, p]) (by simp -implicitDefEqProofs [hs]) ⟨_, rfl, by rw [if_pos hs], [], by simp⟩
    · have hs' : fs.sum ≤ 0 := by omega
      exact rn_ret (v := .p (.int 0)) (S' := [C, p]) (by simp -implicitDefEqProofs [hs']) ⟨_, rfl, by rw [if_neg hs], [], by simp⟩
  exact h
theorem r_lateness (C p : O) (fs : List Int) (r l : Int) (F : Tr fs) (hr : 1 ≤ r ∧ r ≤ 100) (hl : 0 ≤ l ∧ l ≤ 200) : ∃ M, Mx (LateP fs r l) M ∧ m_lateness [.p (prD r l), .p (tI fs)] [C, p] = some (.p (.int M), [C, p]) := by
  have hp : ∀ f ∈ fs, 0 ≤ f := fun f hf => (F.rg f hf).1
  have hfl := F.len
  have a1 := r_server [C, p] r l (by omega) hl
  have a2 := r_traffic [C, p] fs F
  have a3 := r_toldpassed C p fs r l hfl hr
  refine ⟨_, late_mx hp, ?_⟩
  have hr0 : r ≠ 0 := by omega
  have hlen : (((List.range fs.length).filter fun t => decide (0 < fs.getD t 0)).map fun t => endI fs r l t - (t : Int)).length ≤ 500 := by
    rw [List.length_map]
    have := List.length_filter_le (fun t => decide (0 < fs.getD t 0)) (List.range fs.length)
    rw [List.length_range] at this
    omega
  have e1 : ((List.range fs.length).map (endI fs r l)).map PyData.int = (List.range fs.length).map fun t => PyData.int (endI fs r l t) := by rw [List.map_map]; rfl
  rw [e1] at a3
  have e2 := enumD_map (fun t => PyData.int (endI fs r l t)) (List.range fs.length) 0
  rw [List.length_range] at e2
  have e3 : ((List.range fs.length).map fun i : Nat => PyData.tuple [.int (i : Int), PyData.int (endI fs r l ((List.range fs.length).getD i 0))]) = (List.range fs.length).map fun i : Nat => PyData.tuple [.int (i : Int), PyData.int (endI fs r l i)] := by
    refine List.map_congr_left fun i hi => ?_
    rw [List.mem_range] at hi
    rw [List.getD_eq_getElem?_getD, List.getElem?_range hi]; rfl
  rw [e3] at e2
  have hc := lcF_typ (itf := enumI (consF (callF 2 m_told_passed (consF (varF 0) (consF (varF 1) nilF))) nilF)) (gf := tupG 2 (consG (nameG 2) (consG (nameG 3) nilG))) (ft := asT (binF gtI (binF ixT (varF 1) (varF 2)) (conF (.int 0)))) (fe := binF subI (varF 3) (varF 2)) (vs := [2, 3]) (env := [some (.p (prD r l)), some (.p (tI fs)), none, none]) (S := [C, p]) (S' := [C, p, .lst ((List.range fs.length).map fun t => PyData.int (endI fs r l t))]) (gd := [(2, .lst ((List.range fs.length).map fun t => PyData.int (endI fs r l t)))]) (fun i : Nat => PyData.tuple [.int (i : Int), PyData.int (endI fs r l i)]) (fun t => decide (0 < fs.getD t 0)) (fun t => .int (endI fs r l t - (t : Int))) (List.range fs.length) ?_ ?_ (by rw [List.length_range]; omega) (fun t ht acc => ?_)
  · have em : (((List.range fs.length).filter fun t => decide (0 < fs.getD t 0)).map fun t => PyData.int (endI fs r l t - (t : Int))) = (((List.range fs.length).filter fun t => decide (0 < fs.getD t 0)).map fun t => endI fs r l t - (t : Int)).map PyData.int := by rw [List.map_map]; rfl
    rw [em] at hc
    generalize (((List.range fs.length).filter fun t => decide (0 < fs.getD t 0)).map fun t => endI fs r l t - (t : Int)) = L at hc hlen
    generalize ((List.range fs.length).map fun t => PyData.int (endI fs r l t)) = W at hc
    simp -implicitDefEqProofs only [List.length_cons, List.length_nil, List.cons_append, List.nil_append] at hc
    obtain ⟨d, rfl, h⟩ : ∃ d, d = PyData.int (maxI (0 :: L)) ∧ m_lateness [.p (prD r l), .p (tI fs)] [C, p] = some (.p d, [C, p]) := by
      refine of_key (b := b_lateness) ?_
      unfold b_lateness
      refine rn_seq (env' := [some (.p (prD r l)), some (.p (tI fs)), none, none]) (S' := [C, p]) (by simp -implicitDefEqProofs [a1]) ?_
      refine rn_seq (env' := [some (.p (prD r l)), some (.p (tI fs)), none, none]) (S' := [C, p]) (by simp -implicitDefEqProofs [a2]) ?_
      refine rn_seq (env' := [some (.p (prD r l)), some (.p (tI fs)), none, none]) (S' := [C, p]) (if_nx (S' := [C, p]) (by simp -implicitDefEqProofs [hr0]) rfl) ?_
      refine rn_ret (v := .p (.int (maxI (0 :: L)))) (S' := [C, p, .lst W, .lst (L.map PyData.int), .lst ((0 :: L).map PyData.int)]) ?_ ⟨_, rfl, rfl, [.lst W, .lst (L.map PyData.int), .lst ((0 :: L).map PyData.int)], by simp⟩
      have st := e_starL (g := nilF) (env := [some (.p (prD r l)), some (.p (tI fs)), none, none]) (S := [C, p, .lst W, .lst (L.map PyData.int)]) (i := 3) (ds := L.map PyData.int) rfl
      have q2 := e_maxL (S := [C, p, .lst W, .lst (L.map PyData.int), .lst ((0 :: L).map PyData.int)]) (i := 4) (ns := 0 :: L) rfl (by simp -implicitDefEqProofs)
      have hk : (0 :: L).length ≤ 100000 := by rw [List.length_cons]; omega
      have k := e_lstK (ds := (0 :: L).map PyData.int) (S := [C, p, .lst W, .lst (L.map PyData.int)]) (vs := .p (.int 0) :: (L.map PyData.int).map T.p) (allP_p ((0 :: L).map PyData.int)) (by simp; omega)
      rw [e_arg, e_cons, e_lst, e_cons, e_con, Option.bind_some, e_cons1, e_star, hc, Option.bind_some, st, e_nil, Option.map_some, e_star2, Option.map_some, e_cons2]
      simp -implicitDefEqProofs only [List.append_nil]
      rw [Option.bind_some, k]
      simp -implicitDefEqProofs only [Option.bind_some, e_cons1, e_nil, Option.map_some, e_cons2, e_argK]
      exact q2
    exact h
  · simp -implicitDefEqProofs [a3]
    rw [i_enumL (S := [C, p, .lst ((List.range fs.length).map fun t => PyData.int (endI fs r l t))]) (i := 2) (ds := (List.range fs.length).map fun t => PyData.int (endI fs r l t)) rfl, e2]
  · intro z hz
    have : z = (2, O.lst ((List.range fs.length).map fun t => PyData.int (endI fs r l t))) := by simpa using hz
    subst this; rfl
  · rw [List.mem_range] at ht
    have ha := at_nat (getD_some ht) (i := (t : Int)) rfl
    exact ⟨[some (.p (prD r l)), some (.p (tI fs)), some (.p (.int (t : Int))), some (.p (.int (endI fs r l t)))], [], [], by simp -implicitDefEqProofs [wipeE], by simp -implicitDefEqProofs [ha], fun _ => by simp⟩
end G50
set_option maxHeartbeats 2000000
/-! R50j: ticks_of, told_late, late_most, held_most. -/
namespace G50
open PySem PySem.Spec PyProof.Rows L2 Pv
@[simp] theorem atm1 {α : Type} {x : α} : atI [x] (-1) = some x := by unfold atI ixN; simp
theorem r_ticks (C p : O) (b r : Int) : m_ticks_of [.p (cvD b r)] [C, p] = some (.loc 2, [C, p, .lst [.int 1]]) := by
  have c : cutL [prD b r] (some 1) none = [] := cut_from [prD b r] 1 (by simp -implicitDefEqProofs)
  have key : Rn (b_ticks_of 2 [some (.p (cvD b r)), none, none, none, none, none, none] [C, p]) fun o e s => o = .rt (.loc 3) ∧ ∃ d, s = [C, p, d, .lst [.int 1]] := by
    unfold b_ticks_of
    obtain ⟨D1, e1, e2⟩ : ∃ D1 : List (Key × D), setS 1 (disp1F (conF (.int 1)) (conF (.bool true))) 2 [some (.p (cvD b r)), none, none, none, none, none, none] [C, p] = some (.nx, [some (.p (cvD b r)), some (.loc 2), none, none, none, none, none], [C, p, .dic D1]) ∧ sortedKT [.loc 2] [C, p, .dic D1] = some (.loc 3, [C, p, .dic D1, .lst [.int 1]]) := by
      refine ⟨[(.inl 1, .bool true)], ?_, ?_⟩
      · simp -implicitDefEqProofs [disp1F, keyT, keyOf, gcV, gcT, gcOb, putLoc]
      · have e : sortD (keysL [((.inl 1 : Key), PyData.bool true)]) = some [.int 1] := by
          have h := sortD_ints [1]
          rw [← sortI_uniq (List.Perm.refl [1]) (by simp -implicitDefEqProofs)] at h
          exact h
        unfold sortedKT
        have e2 : dictOf [C, p, .dic [((.inl 1 : Key), PyData.bool true)]] (.loc 2) = some [((.inl 1 : Key), PyData.bool true)] := rfl
        simp -implicitDefEqProofs only [e2, Option.bind_some, e, Option.map_some]
        rfl
    refine rn_seq e1 ?_
    refine rn_seq2 (rn_for (xs := enumD [prD b r]) (S1 := [C, p, .dic D1]) (gd := []) (by simp -implicitDefEqProofs) (fun i e s => s = [C, p, .dic D1] ∧ ∃ o2 o3 : Option D, e = [some (.p (cvD b r)), some (.loc 2), o2.map T.p, o3.map T.p, none, none, none]) (fun _ _ _ _ => gd_nil) ⟨rfl, none, none, rfl⟩ (fun i x e s hx ⟨hs, o2, o3, he⟩ => ?_) (fun e s ⟨hs, o2, o3, he⟩ => ?_))
    · subst hs he
      obtain ⟨x', hx', rfl⟩ := enumD_get hx
      have hi : i = 0 := by
        have := (List.getElem?_eq_some_iff.mp hx').1
        simp at this; exact this
      subst hi
      have : x' = prD b r := by simpa using hx'.symm
      subst this
      refine ⟨[some (.p (cvD b r)), some (.loc 2), some (.p (.int 0)), some (.p (prD b r)), none, none, none], [C, p, .dic D1], by simp -implicitDefEqProofs, ?_⟩
      refine rn_for (xs := []) (S1 := [C, p, .dic D1]) (gd := []) (by simp -implicitDefEqProofs [sliceF, someO, noO, slT, c]) (fun i e s => s = [C, p, .dic D1] ∧ e = [some (.p (cvD b r)), some (.loc 2), some (.p (.int 0)), some (.p (prD b r)), none, none, none]) (fun _ _ _ _ => gd_nil) ⟨rfl, rfl⟩ (fun i x e s hx => by simp at hx) (fun e s ⟨hs, he⟩ => ?_)
      subst hs he
      exact ⟨rfl, some (.int 0), some (prD b r), by simp -implicitDefEqProofs [forget]⟩
    · subst hs he
      exact rn_ret (v := .loc 3) (S' := [C, p, .dic D1, .lst [.int 1]]) (by simp -implicitDefEqProofs [forget, e2]) ⟨rfl, _, rfl⟩
  obtain ⟨o, e, s, h1, rfl, d, rfl⟩ := key
  exact m_ret h1 (by simp -implicitDefEqProofs [gcV, gcT, gcOb])
/-- how late at most -/
def worst (b r l : Int) : Int := l + -(-(b + r) / r) - 1
theorem worst_ge {b r l : Int} (hb : 0 ≤ b) (hr : 1 ≤ r) : l ≤ worst b r l := by
  have : (-(b + r)) / r ≤ -1 := Int.ediv_le_of_le_mul (by omega) (by omega)
  unfold worst; omega
theorem maxI_two (a b : Int) : maxI [a, b] = max a b := rfl
theorem at1_ (b r : Int) : letAt b r 1 = b + r := by unfold letAt; rw [if_pos (by omega), Int.mul_one]
theorem r_toldlate (C p : O) (b r l : Int) (hb : 0 ≤ b) (hr : 1 ≤ r ∧ r ≤ 100) (hl : 0 ≤ l) : m_told_late [.p (cvD b r), .p (prD r l)] [C, p] = some (.p (.int (worst b r l)), [C, p]) := by
  have a1 := r_ticks C p b r
  have a2 := fun S => r_at S b r 1 (by omega)
  simp -implicitDefEqProofs only [at1_] at a2
  have a3 := fun S => r_lateby S r l (b + r) 1 hr
  have hw : l + -(-(b + r) / r) - 1 = worst b r l := rfl
  simp -implicitDefEqProofs only [hw] at a3
  have hw0 := worst_ge (l := l) hb hr.1
  generalize worst b r l = W at *
  have hne : b + r ≠ 0 := by omega
  have hr0 : r ≠ 0 := by omega
  have hc := lcF_all (itf := lstI (callF 1 m_ticks_of (consF (varF 0) nilF))) (gf := nameG 2) (fe := callF 3 m_late_by (consF (varF 1) (consF (callF 2 m_told_at (consF (varF 0) (consF (varF 2) nilF))) (consF (varF 2) nilF)))) (vs := [2]) (env := [some (.p (cvD b r)), some (.p (prD r l)), none]) (S := [C, p]) (S' := [C, p, .lst [.int 1]]) (gd := [(2, .lst [.int 1])]) (fun _ : Unit => .int 1) (fun _ => .int W) [()] (by simp -implicitDefEqProofs [a1]) (fun z hz => by
      have : z = (2, O.lst [.int 1]) := by simpa using hz
      subst this; rfl) (by simp -implicitDefEqProofs) (fun _ _ acc => ⟨[some (.p (cvD b r)), some (.p (prD r l)), some (.p (.int 1))], [], by simp -implicitDefEqProofs [wipeE], by simp -implicitDefEqProofs [a2, a3]⟩)
  simp -implicitDefEqProofs only [List.length_cons, List.length_nil, List.cons_append, List.nil_append, List.map_cons, List.map_nil] at hc
  obtain ⟨d, rfl, h⟩ : ∃ d, d = PyData.int W ∧ m_told_late [.p (cvD b r), .p (prD r l)] [C, p] = some (.p d, [C, p]) := by
    refine of_key (b := b_told_late) ?_
    unfold b_told_late
    refine rn_seq (env' := [some (.p (cvD b r)), some (.p (prD r l)), none]) (S' := [C, p]) (if_nx (S' := [C, p]) (by simp -implicitDefEqProofs [a2, hne]) rfl) ?_
    refine rn_seq (env' := [some (.p (cvD b r)), some (.p (prD r l)), none]) (S' := [C, p]) (if_nx (S' := [C, p]) (by simp -implicitDefEqProofs [hr0]) rfl) ?_
    refine rn_ret (v := .p (.int W)) (S' := [C, p, .lst [.int 1], .lst [.int W], .lst [.int 0, .int W]]) ?_ ⟨_, rfl, rfl, [.lst [.int 1], .lst [.int W], .lst [.int 0, .int W]], rfl⟩
    have st := e_starL (g := nilF) (env := [some (.p (cvD b r)), some (.p (prD r l)), none]) (S := [C, p, .lst [.int 1], .lst [.int W]]) (i := 3) (ds := [.int W]) rfl
    have q2 := e_maxL (S := [C, p, .lst [.int 1], .lst [.int W], .lst [.int 0, .int W]]) (i := 4) (ns := [0, W]) rfl (by simp -implicitDefEqProofs)
    rw [maxI_two, Int.max_eq_right (by omega)] at q2
    have k := e_lstK (ds := [.int 0, .int W]) (S := [C, p, .lst [.int 1], .lst [.int W]]) (vs := [.p (.int 0), .p (.int W)]) rfl (by simp -implicitDefEqProofs)
    rw [e_arg, e_cons, e_lst, e_cons, e_con, Option.bind_some, e_cons1, e_star, hc, Option.bind_some, st, e_nil, Option.map_some, e_star2, Option.map_some, e_cons2]
    simp -implicitDefEqProofs only [List.map_cons, List.map_nil, List.cons_append, List.nil_append]
    rw [Option.bind_some, k]
    simp -implicitDefEqProofs only [Option.bind_some, e_cons1, e_nil, Option.map_some, e_cons2, e_argK]
    exact q2
  exact h
theorem r_greatest (S : Sto) (b r : Int) (hr : 0 ≤ r ∧ r ≤ 100) : m_greatest [.p (cvD b r), .p (.int 1)] S = some (.p (.tuple [.int (b + r)]), S) := by
  have a1 := fun S => r_at S b r 1 hr
  have a2 := fun S => r_at S b r 0 hr
  simp -implicitDefEqProofs only [at1_] at a1
  have e0 : letAt b r 0 = 0 := rfl
  simp -implicitDefEqProofs only [e0] at a2
  have hc := lcF_all (itf := range1I (consF (varF 1) nilF)) (gf := nameG 2) (fe := binF subI (callF 2 m_told_at (consF (varF 0) (consF (binF addT (varF 2) (conF (.int 1))) nilF))) (callF 2 m_told_at (consF (varF 0) (consF (varF 2) nilF)))) (vs := [2]) (env := [some (.p (cvD b r)), some (.p (.int 1)), none]) (S := S) (S' := S) (gd := []) natI (fun _ => .int (b + r)) (List.range 1) (i_rangeN (c := 1) (by simp -implicitDefEqProofs) (by omega)) gd_nil (by simp -implicitDefEqProofs) (fun z hz acc => by
      have : z = 0 := by simpa using hz
      subst this
      exact ⟨[some (.p (cvD b r)), some (.p (.int 1)), some (.p (.int 0))], [], by simp -implicitDefEqProofs [wipeE, natI], by simp -implicitDefEqProofs [a1, a2]⟩)
  have em : (List.range 1).map (fun _ => PyData.int (b + r)) = [.int (b + r)] := rfl
  rw [em] at hc
  have q := e_tuple (S := S ++ [.lst [.int (b + r)]]) (i := S.length) (ds := [.int (b + r)]) (by simp -implicitDefEqProofs)
  obtain ⟨d, rfl, h⟩ : ∃ d, d = PyData.tuple [.int (b + r)] ∧ m_greatest [.p (cvD b r), .p (.int 1)] S = some (.p d, S) := by
    refine of_key (b := b_greatest) ?_
    unfold b_greatest
    refine rn_ret (v := .p (.tuple [.int (b + r)])) (S' := S ++ [.lst [.int (b + r)]]) ?_ ⟨_, rfl, rfl, _, rfl⟩
    show argF _ _ [some (.p (cvD b r)), some (.p (.int 1)), none] S = _
    rw [e_arg, e_cons, hc]
    simp -implicitDefEqProofs only [Option.bind_some, e_cons1, e_nil, Option.map_some, e_cons2, e_argK]
    exact q
  exact h
theorem r_latemost (C p : O) (b r l : Int) (hb : 0 ≤ b ∧ b ≤ 400) (hr : 1 ≤ r ∧ r ≤ 100) (hl : 0 ≤ l ∧ l ≤ 200) : ∃ z, Dk 3 z ∧ m_late_most [.p (cvD b r), .p (prD r l)] [C, p] = some (.p (.tuple [.str "late", .int (worst b r l), z]), [C, p]) := by
  have a0 := r_toldlate C p b r l hb.1 hr hl.1
  have a1 := r_ticks C p b r
  have a2 := fun S => r_at S b r 1 (by omega)
  simp -implicitDefEqProofs only [at1_] at a2
  have a3 := fun S => r_lateby S r l (b + r) 1 hr
  have hw : l + -(-(b + r) / r) - 1 = worst b r l := rfl
  simp -implicitDefEqProofs only [hw] at a3
  have a4 := r_curve [C, p] b r hb (by omega)
  have a5 := r_server [C, p] r l (by omega) hl
  have a6 := fun S => r_greatest S b r (by omega)
  generalize worst b r l = W at *
  obtain ⟨d, ⟨z, rfl, hz⟩, h⟩ : ∃ d, (∃ z, d = PyData.tuple [.str "late", .int W, z] ∧ Dk 3 z) ∧ m_late_most [.p (cvD b r), .p (prD r l)] [C, p] = some (.p d, [C, p]) := by
    refine of_key (b := b_late_most) ?_
    unfold b_late_most
    refine rn_seq (env' := [some (.p (cvD b r)), some (.p (prD r l)), none, none, none]) (S' := [C, p]) (by simp -implicitDefEqProofs [a4]) ?_
    refine rn_seq (env' := [some (.p (cvD b r)), some (.p (prD r l)), none, none, none]) (S' := [C, p]) (by simp -implicitDefEqProofs [a5]) ?_
    refine rn_seq (env' := [some (.p (cvD b r)), some (.p (prD r l)), some (.p (.int W)), none, none]) (S' := [C, p]) (by simp -implicitDefEqProofs [a0]) ?_
    refine rn_seq (env' := [some (.p (cvD b r)), some (.p (prD r l)), some (.p (.int W)), none, none]) (S' := [C, p]) (if_nx (S' := [C, p]) (by simp -implicitDefEqProofs) rfl) ?_
    by_cases hW : W = 0
    · refine rn_seq2 (rn_if1 (S' := [C, p]) (by simp -implicitDefEqProofs [hW]) ?_)
      refine rn_ret (v := .p (.tuple [.str "late", .int W, .tuple []])) (S' := [C, p]) (by simp -implicitDefEqProofs [tupT, allP, hW]) ⟨_, rfl, ⟨_, rfl, dk_tup (fun x hx => by simp at hx)⟩, [], rfl⟩
    · have hc := lcF_typ (itf := lstI (callF 1 m_ticks_of (consF (varF 0) nilF))) (gf := nameG 4) (ft := asT (binF (eqT false) (callF 3 m_late_by (consF (varF 1) (consF (callF 2 m_told_at (consF (varF 0) (consF (varF 4) nilF))) (consF (varF 4) nilF)))) (varF 2))) (fe := varF 4) (vs := [4]) (env := [some (.p (cvD b r)), some (.p (prD r l)), some (.p (.int W)), none, none]) (S := [C, p]) (S' := [C, p, .lst [.int 1]]) (gd := [(2, .lst [.int 1])]) (fun _ : Unit => .int 1) (fun _ => true) (fun _ => .int 1) [()] (by simp -implicitDefEqProofs [a1]) (fun z hz => by
          have : z = (2, O.lst [.int 1]) := by simpa using hz
          subst this; rfl) (by simp -implicitDefEqProofs) (fun _ _ acc => ⟨[some (.p (cvD b r)), some (.p (prD r l)), some (.p (.int W)), none, some (.p (.int 1))], [], [], by simp -implicitDefEqProofs [wipeE], by simp -implicitDefEqProofs [a2, a3], fun _ => by simp -implicitDefEqProofs⟩)
      have em : (([()].filter fun _ => true).map fun _ => PyData.int 1) = [.int 1] := rfl
      rw [em] at hc
      simp -implicitDefEqProofs only [List.length_cons, List.length_nil, List.cons_append, List.nil_append] at hc
      refine rn_seq (env' := [some (.p (cvD b r)), some (.p (prD r l)), some (.p (.int W)), none, none]) (S' := [C, p]) (if_nx (S' := [C, p]) (by simp -implicitDefEqProofs [hW]) rfl) ?_
      refine rn_seq (env' := [some (.p (cvD b r)), some (.p (prD r l)), some (.p (.int W)), some (.loc 2), none]) (S' := [C, p, .lst [.int 1]]) (by rw [s_set, hc]; simp [gcV, gcT, gcOb, putLoc]) ?_
      exact rn_ret (v := .p (.tuple [.str "late", .int W, .tuple [.int (b + r)]])) (S' := [C, p, .lst [.int 1]]) (by simp -implicitDefEqProofs [tupT, allP, a6]) ⟨_, rfl, ⟨_, rfl, dk_tup (fun x hx => by
        have : x = .int (b + r) := by simpa using hx
        subst this; exact dk_int _)⟩, [.lst [.int 1]], rfl⟩
  exact ⟨z, hz, h⟩
theorem r_heldmost (C p : O) (b r l : Int) (hb : 0 ≤ b ∧ b ≤ 400) (hr : 1 ≤ r ∧ r ≤ 100) (hl : 0 ≤ l ∧ l ≤ 200) : m_held_most [.p (cvD b r), .p (prD r l)] [C, p] = some (.p (.int (b + r * (l + 1))), [C, p]) := by
  have a1 := r_ticks C p b r
  have a2 := fun S t => r_at S b r t (by omega)
  have a3 := fun S t => r_served S r l t (by omega)
  have a4 := r_curve [C, p] b r hb (by omega)
  have a5 := r_server [C, p] r l (by omega) hl
  have hc := lcF_all (itf := lstI (varF 2)) (gf := nameG 3) (fe := binF subI (callF 2 m_told_at (consF (varF 0) (consF (varF 3) nilF))) (callF 2 m_told_served (consF (varF 1) (consF (binF subI (varF 3) (conF (.int 1))) nilF)))) (vs := [3]) (env := [some (.p (cvD b r)), some (.p (prD r l)), some (.loc 2), none]) (S := [C, p, .lst ([1, l + 1, l + 2].map PyData.int)]) (S' := [C, p, .lst ([1, l + 1, l + 2].map PyData.int)]) (gd := [(2, .lst ([1, l + 1, l + 2].map PyData.int))]) (fun t : Int => .int t) (fun t => .int (letAt b r t - sv1 r l (t - 1))) [1, l + 1, l + 2] (by simp -implicitDefEqProofs) (fun z hz => by
      have : z = (2, O.lst ([1, l + 1, l + 2].map PyData.int)) := by simpa using hz
      subst this; rfl) (by simp -implicitDefEqProofs) (fun t _ acc => ⟨[some (.p (cvD b r)), some (.p (prD r l)), some (.loc 2), some (.p (.int t))], [], by simp -implicitDefEqProofs [wipeE], by simp -implicitDefEqProofs [a2, a3]⟩)
  have em : ([1, l + 1, l + 2].map fun t => PyData.int (letAt b r t - sv1 r l (t - 1))) = ([1, l + 1, l + 2].map fun t => letAt b r t - sv1 r l (t - 1)).map PyData.int := by rw [List.map_map]; rfl
  rw [em] at hc
  have hmx : maxI ([1, l + 1, l + 2].map fun t => letAt b r t - sv1 r l (t - 1)) = b + r * (l + 1) := by
    have m := mx_max (ns := [1, l + 1, l + 2].map fun t => letAt b r t - sv1 r l (t - 1)) (by simp -implicitDefEqProofs)
    refine m.uniq (Q := fun x => x ∈ [1, l + 1, l + 2].map fun t => letAt b r t - sv1 r l (t - 1)) ?_ (fun _ => Iff.rfl)
    have f1 : letAt b r 1 - sv1 r l (1 - 1) = b + r := by
      unfold sv1; rw [at1_, if_neg (by omega)]; omega
    have f2 : letAt b r (l + 1) - sv1 r l (l + 1 - 1) = b + r * (l + 1) := by
      unfold letAt sv1; rw [if_pos (by omega), if_neg (by omega)]; omega
    have f3 : letAt b r (l + 2) - sv1 r l (l + 2 - 1) = b + r * (l + 1) := by
      unfold letAt sv1; rw [if_pos (by omega), if_pos (by omega), show l + 2 - 1 - l = 1 by omega, Int.mul_add, Int.mul_add]; omega
    have hn : 0 ≤ r * l := Int.mul_nonneg (by omega) (by omega)
    have ex : r * (l + 1) = r * l + r := by rw [Int.mul_add, Int.mul_one]
    constructor
    · intro x hx
      simp -implicitDefEqProofs only [List.map_cons, List.map_nil, List.mem_cons, List.not_mem_nil, or_false, f1, f2, f3] at hx
      omega
    · rw [← f2]
      exact List.mem_map.mpr ⟨l + 1, by simp -implicitDefEqProofs, rfl⟩
  have hne : ([1, l + 1, l + 2].map fun t => letAt b r t - sv1 r l (t - 1)) ≠ [] := by simp -implicitDefEqProofs
  generalize ([1, l + 1, l + 2].map fun t => letAt b r t - sv1 r l (t - 1)) = L at *
  simp -implicitDefEqProofs only [List.length_cons, List.length_nil, List.cons_append, List.nil_append] at hc
  obtain ⟨d, rfl, h⟩ : ∃ d, d = PyData.int (b + r * (l + 1)) ∧ m_held_most [.p (cvD b r), .p (prD r l)] [C, p] = some (.p d, [C, p]) := by
    refine of_key (b := b_held_most) ?_
    unfold b_held_most
    refine rn_seq (env' := [some (.p (cvD b r)), some (.p (prD r l)), none, none]) (S' := [C, p]) (by simp -implicitDefEqProofs [a4]) ?_
    refine rn_seq (env' := [some (.p (cvD b r)), some (.p (prD r l)), none, none]) (S' := [C, p]) (by simp -implicitDefEqProofs [a5]) ?_
    refine rn_seq (env' := [some (.p (cvD b r)), some (.p (prD r l)), none, none]) (S' := [C, p]) (if_nx (S' := [C, p]) (by simp -implicitDefEqProofs) rfl) ?_
    refine rn_seq (env' := [some (.p (cvD b r)), some (.p (prD r l)), some (.loc 2), none]) (S' := [C, p, .lst ([1, l + 1, l + 2].map PyData.int)]) ?_ ?_
    · have st := e_starL (g := consF (binF addT (binF ixT (varF 1) (conF (.int 1))) (conF (.int 1))) (consF (binF addT (binF ixT (varF 1) (conF (.int 1))) (conF (.int 2))) nilF)) (env := [some (.p (cvD b r)), some (.p (prD r l)), none, none]) (S := [C, p, .lst [.int 1]]) (i := 2) (ds := [.int 1]) rfl
      simp -implicitDefEqProofs [a1, st, allP, gcV, gcT, gcOb, putLoc]
    · have q2 := e_maxL (S := [C, p, .lst ([1, l + 1, l + 2].map PyData.int), .lst (L.map PyData.int)]) (i := 3) (ns := L) rfl hne
      rw [hmx] at q2
      refine rn_ret (v := .p (.int (b + r * (l + 1)))) (S' := [C, p, .lst ([1, l + 1, l + 2].map PyData.int), .lst (L.map PyData.int)]) ?_ ⟨_, rfl, rfl, [_, _], rfl⟩
      rw [e_arg, e_cons, hc]
      simp -implicitDefEqProofs only [Option.bind_some, e_cons1, e_nil, Option.map_some, e_cons2, e_argK]
      exact q2
  exact h
end G50
set_option maxHeartbeats 1000000
/-! L50c: the plain laws: put together, held, late. -/
namespace G50
/-! one behind the other -/
theorem pf_app (xs ys : List Int) (i : Nat) : pf (xs ++ ys) i = if i ≤ xs.length then pf xs i else pf xs xs.length + pf ys (i - xs.length) := by
  unfold pf
  rw [List.take_append]
  split
  · next h =>
    rw [show i - xs.length = 0 by omega]; simp
  · next h =>
    rw [sum_app', List.take_of_length_le (by omega), List.take_length]
theorem Fr_app (xs ys : List Int) (r : Int) (i : Nat) : Fr (xs ++ ys) r i = if i ≤ xs.length then Fr xs r i else Fr xs r xs.length + Fr ys r (i - xs.length) := by
  unfold Fr
  rw [pf_app]
  split
  · rfl
  · next h =>
    have : r * ((i - xs.length : Nat) : Int) = r * (i : Int) - r * (xs.length : Int) := by rw [Int.ofNat_sub (by omega), Int.mul_sub]
    omega
theorem Fr_zero (fs : List Int) (r : Int) : Fr fs r 0 = 0 := by unfold Fr; simp [pf]
theorem pf_rep0 (k i : Nat) : pf (List.replicate k (0 : Int)) i = 0 := by
  unfold pf
  rw [List.take_replicate]
  generalize min i k = m
  induction m with
  | zero => rfl
  | succ m ih => rw [List.replicate_succ, List.sum_cons, ih]; rfl
theorem isB_cat {xs ys : List Int} {r B1 B2 : Int} {k : Nat} (h1 : IsB xs r B1) (h2 : IsB ys r B2) (hr : 1 ≤ r) (hk : B1 < k) : IsB (xs ++ List.replicate k 0 ++ ys) r (if B1 < B2 then B2 else B1) := by
  have n1 := h1.nonneg
  have n2 := h2.nonneg
  have fz : ∀ i : Nat, Fr (List.replicate k (0 : Int)) r i = -(r * i) := fun i => by unfold Fr; rw [pf_rep0]; omega
  have lz : (List.replicate k (0 : Int)).length = k := List.length_replicate
  have lx : (xs ++ List.replicate k (0 : Int)).length = xs.length + k := by rw [List.length_append, lz]
  have F : ∀ i, Fr (xs ++ List.replicate k 0 ++ ys) r i = if i ≤ xs.length then Fr xs r i else if i ≤ xs.length + k then Fr xs r xs.length - r * ((i - xs.length : Nat) : Int) else Fr xs r xs.length - r * (k : Int) + Fr ys r (i - (xs.length + k)) := fun i => by
    rw [Fr_app, lx, Fr_app]
    by_cases q1 : i ≤ xs.length
    · rw [if_pos (by omega), if_pos q1, if_pos q1]
    · rw [if_neg q1, if_neg q1]
      by_cases q2 : i ≤ xs.length + k
      · rw [if_pos q2, if_pos q2, fz]; omega
      · rw [if_neg q2, if_neg q2, Fr_app]
        by_cases q3 : xs.length + k ≤ xs.length
        · have : k = 0 := by omega
          subst this
          simp
        · rw [if_neg q3, fz, show xs.length + k - xs.length = k by omega]; omega
  have hrk : (k : Int) ≤ r * (k : Int) := by
    have := Int.mul_le_mul_of_nonneg_right hr (Int.natCast_nonneg k)
    omega
  have mz : ∀ m : Nat, 0 ≤ r * (m : Int) := fun m => Int.mul_nonneg (by omega) (Int.natCast_nonneg m)
  constructor
  · intro a c hac hc
    rw [List.length_append, lx] at hc
    have hB1 : B1 ≤ (if B1 < B2 then B2 else B1) := by split <;> omega
    have hB2 : B2 ≤ (if B1 < B2 then B2 else B1) := by split <;> omega
    rw [F a, F c]
    generalize (if B1 < B2 then B2 else B1) = B at *
    by_cases a1 : a ≤ xs.length
    · rw [if_pos a1]
      by_cases c1 : c ≤ xs.length
      · rw [if_pos c1]
        have := h1.le a c hac c1
        omega
      · rw [if_neg c1]
        have e1 := h1.le a xs.length a1 (Nat.le_refl _)
        by_cases c2 : c ≤ xs.length + k
        · rw [if_pos c2]
          have := mz (c - xs.length)
          omega
        · rw [if_neg c2]
          have e2 := h2.le 0 (c - (xs.length + k)) (by omega) (by omega)
          rw [Fr_zero] at e2
          omega
    · rw [if_neg a1]
      have c1 : ¬ c ≤ xs.length := by omega
      rw [if_neg c1]
      by_cases a2 : a ≤ xs.length + k
      · rw [if_pos a2]
        by_cases c2 : c ≤ xs.length + k
        · rw [if_pos c2]
          have e : r * ((c - xs.length : Nat) : Int) = r * ((a - xs.length : Nat) : Int) + r * ((c - a : Nat) : Int) := by rw [← Int.mul_add, ← Int.natCast_add]; congr 2; omega
          have := mz (c - a)
          omega
        · rw [if_neg c2]
          have e2 := h2.le 0 (c - (xs.length + k)) (by omega) (by omega)
          rw [Fr_zero] at e2
          have e : r * (k : Int) = r * ((a - xs.length : Nat) : Int) + r * ((k - (a - xs.length) : Nat) : Int) := by rw [← Int.mul_add, ← Int.natCast_add]; congr 2; omega
          have := mz (k - (a - xs.length))
          omega
      · have c2 : ¬ c ≤ xs.length + k := by omega
        rw [if_neg a2, if_neg c2]
        have e2 := h2.le (a - (xs.length + k)) (c - (xs.length + k)) (by omega) (by omega)
        omega
  · by_cases hlt : B1 < B2
    · rw [if_pos hlt]
      obtain ⟨a, c, q1, q2, q3⟩ := h2.at_
      refine ⟨xs.length + k + a, xs.length + k + c, by omega, by rw [List.length_append, lx]; omega, ?_⟩
      have key : ∀ m, Fr (xs ++ List.replicate k 0 ++ ys) r (xs.length + k + m) = Fr xs r xs.length - r * (k : Int) + Fr ys r m := fun m => by
        rw [F]
        by_cases m0 : m = 0
        · subst m0
          rw [Fr_zero]
          by_cases k0 : k = 0
          · omega
          · rw [if_neg (by omega), if_pos (by omega), show xs.length + k + 0 - xs.length = k by omega]; omega
        · rw [if_neg (by omega), if_neg (by omega), show xs.length + k + m - (xs.length + k) = m by omega]
      rw [key, key]; omega
    · rw [if_neg hlt]
      obtain ⟨a, c, q1, q2, q3⟩ := h1.at_
      refine ⟨a, c, q1, by rw [List.length_append, lx]; omega, ?_⟩
      rw [F, F, if_pos q2, if_pos (by omega)]; exact q3
/-! side by side -/
def both (xs ys : List Int) : List Int := List.zipWith (· + ·) xs ys
theorem sum_both : ∀ (xs ys : List Int) (i : Nat), i ≤ xs.length → i ≤ ys.length → pf (both xs ys) i = pf xs i + pf ys i
  | xs, ys, 0, _, _ => by unfold pf; simp
  | [], _, i + 1, h, _ => by simp at h
  | _ :: _, [], i + 1, _, h => by simp at h
  | x :: xs, y :: ys, i + 1, h1, h2 => by
    have ih := sum_both xs ys i (by simpa using h1) (by simpa using h2)
    unfold pf at *
    unfold both at *
    simp only [List.zipWith_cons_cons, List.take_succ_cons, List.sum_cons, ih]
    omega
theorem both_len (xs ys : List Int) : (both xs ys).length = min xs.length ys.length := by unfold both; rw [List.length_zipWith]
theorem both_take {xs ys : List Int} {r B1 B2 B3 : Int} {m : Nat} (hm : m = min xs.length ys.length) (h1 : IsB (xs.take m) r B1) (h2 : IsB (ys.take m) r B2) (hx : ∀ x ∈ xs, 0 ≤ x ∧ x ≤ 39) (hy : ∀ x ∈ ys, 0 ≤ x ∧ x ≤ 39)
    (h3 : IsB (both xs ys) (if 2 * r < 100 then 2 * r else 100) B3) : B3 ≤ B1 + B2 := by
  have n1 := h1.nonneg
  have n2 := h2.nonneg
  obtain ⟨a, c, q1, q2, q3⟩ := h3.at_
  rw [both_len] at q2
  have lx : (xs.take m).length = m := by rw [List.length_take]; omega
  have ly : (ys.take m).length = m := by rw [List.length_take]; omega
  by_cases hr : 2 * r < 100
  · rw [if_pos hr] at q3
    have e1 := h1.le a c q1 (by omega)
    have e2 := h2.le a c q1 (by omega)
    have pt : ∀ (zs : List Int) (i : Nat), i ≤ m → pf (zs.take m) i = pf zs i := fun zs i hi => by
      unfold pf
      rw [List.take_take, Nat.min_eq_left hi]
    unfold Fr at e1 e2 q3
    rw [pt xs a (by omega), pt xs c (by omega)] at e1
    rw [pt ys a (by omega), pt ys c (by omega)] at e2
    rw [sum_both xs ys a (by omega) (by omega), sum_both xs ys c (by omega) (by omega), Int.mul_assoc, Int.mul_assoc] at q3
    omega
  · rw [if_neg hr] at q3
    have key : ∀ k : Nat, a + k ≤ min xs.length ys.length → pf (both xs ys) (a + k) ≤ pf (both xs ys) a + 78 * (k : Int) := by
      intro k
      induction k with
      | zero => intro _; simp
      | succ k ih =>
        intro hk
        have ih := ih (by omega)
        obtain ⟨z, hz⟩ : ∃ z, (both xs ys)[a + k]? = some z := ⟨_, List.getElem?_eq_getElem (by rw [both_len]; omega)⟩
        have hs := pf_succ hz
        have hz' : z ≤ 78 := by
          unfold both at hz
          rw [List.getElem?_zipWith, List.getElem?_eq_getElem (by omega), List.getElem?_eq_getElem (by omega)] at hz
          have hx' := hx _ (List.getElem_mem (l := xs) (n := a + k) (by omega))
          have hy' := hy _ (List.getElem_mem (l := ys) (n := a + k) (by omega))
          have := Option.some.inj hz
          omega
        have e : a + (k + 1) = a + k + 1 := by omega
        rw [e, hs]
        omega
    obtain ⟨k, rfl⟩ := Nat.exists_eq_add_of_le q1
    have := key k q2
    unfold Fr at q3
    have e : (100 : Int) * ((a + k : Nat) : Int) = 100 * (a : Int) + 100 * (k : Int) := by omega
    omega
/-! held -/
theorem sv_0 (r : Int) {a t : Nat} (h : a ≤ t) : sv1 r 0 ((t : Int) - (a : Int)) = r * ((t : Int) - (a : Int)) := by
  unfold sv1
  split
  · rw [Int.sub_zero]
  · next h2 =>
    have : (t : Int) - (a : Int) = 0 := by omega
    rw [this]
theorem wins_P {fs : List Int} {r x : Int} : x ∈ (0 :: (wins fs fs.length).map fun p => p.1 - r * (p.2 - 1)) ↔ HeldP fs r 0 x := by
  rw [List.mem_cons, List.mem_map]
  constructor
  · rintro (h | ⟨p, hp, rfl⟩)
    · exact .inl h
    · obtain ⟨a, m, ha, h1, h2, rfl⟩ := mem_wins.mp hp
      refine .inr ⟨a + m - 1, a, by omega, trivial, by omega, ?_⟩
      show ws fs a m - r * ((m : Int) - 1) = heldV fs r 0 a (a + m - 1)
      unfold heldV
      rw [sv_0 r (by omega), show a + m - 1 + 1 - a = m by omega, show ((a + m - 1 : Nat) : Int) - (a : Int) = (m : Int) - 1 by omega]
  · rintro (h | ⟨t, a, h1, _, h2, rfl⟩)
    · exact .inl h
    · refine .inr ⟨(ws fs a (t + 1 - a), ((t + 1 - a : Nat) : Int)), mem_wins.mpr ⟨a, t + 1 - a, by omega, by omega, by omega, rfl⟩, ?_⟩
      unfold heldV
      rw [sv_0 r h2, show ((t + 1 - a : Nat) : Int) - 1 = (t : Int) - (a : Int) by omega]
/-- what is held at most, if it is as much as comes in a tick -/
theorem held_due {fs : List Int} {r B M : Int} (hp : ∀ f ∈ fs, 0 ≤ f) (hr : 0 ≤ r) (hB : IsB fs r B) (hM : Mx (HeldP fs r 0) M) (h : r ≤ M) : M = B + r := by
  have hb : IsB fs r (M - r) := by
    refine isB_of (fun a m hl => ?_) ?_
    · by_cases hm : m = 0
      · subst hm
        simp [ws]; omega
      · have := hM.le (heldV fs r 0 a (a + m - 1)) (.inr ⟨a + m - 1, a, by omega, trivial, by omega, rfl⟩)
        unfold heldV at this
        rw [sv_0 r (by omega), show a + m - 1 + 1 - a = m by omega, show ((a + m - 1 : Nat) : Int) - (a : Int) = (m : Int) - 1 by omega, Int.mul_sub, Int.mul_one] at this
        omega
    · rcases hM.at_ with e | ⟨t, a, h1, _, h2, e⟩
      · exact ⟨0, 0, by omega, by simp [ws]; omega⟩
      · refine ⟨a, t + 1 - a, by omega, ?_⟩
        unfold heldV at e
        rw [sv_0 r h2] at e
        have : r * ((t + 1 - a : Nat) : Int) = r * ((t : Int) - (a : Int)) + r := by
          rw [show ((t + 1 - a : Nat) : Int) = (t : Int) - (a : Int) + 1 by omega, Int.mul_add, Int.mul_one]
        omega
  have := hB.uniq hb
  omega
theorem held_le {fs : List Int} {r l B M : Int} (hr : 1 ≤ r) (hl : 0 ≤ l) (hB : IsB fs r B) (hM : Mx (HeldP fs r l) M) : M ≤ B + r * (l + 1) := by
  have hb := hB.nonneg
  have hn : 0 ≤ r * (l + 1) := Int.mul_nonneg (by omega) (by omega)
  rcases hM.at_ with e | ⟨t, a, h1, _, h2, e⟩
  · omega
  · have hw := hB.win (a := a) (m := t + 1 - a) (by omega)
    unfold heldV sv1 at e
    rw [show ((t + 1 - a : Nat) : Int) = (t : Int) - (a : Int) + 1 by omega] at hw
    rw [e]
    split
    · next h =>
      have : r * ((t : Int) - (a : Int) + 1) = r * ((t : Int) - (a : Int) - l) + r * (l + 1) := by rw [← Int.mul_add]; congr 1; omega
      omega
    · next h =>
      have := Int.mul_le_mul_of_nonneg_left (show (t : Int) - (a : Int) + 1 ≤ l + 1 by omega) (show 0 ≤ r by omega)
      omega
/-! late -/
theorem late_le {fs : List Int} {r l B M : Int} (hr : 1 ≤ r) (hl : 0 ≤ l) (hB : IsB fs r B) (hM : Mx (LateP fs r l) M) : M ≤ worst B r l := by
  have hb := hB.nonneg
  have hw := worst_ge (l := l) hb hr
  rcases hM.at_ with e | ⟨t, a, h1, _, h2, e⟩
  · omega
  · have hws := hB.win (a := a) (m := t + 1 - a) (by omega)
    rw [show ((t + 1 - a : Nat) : Int) = (t : Int) - (a : Int) + 1 by omega] at hws
    rw [e]
    unfold lateV worst
    have e1 : (-(B + r * ((t : Int) - (a : Int) + 1))) / r ≤ (-ws fs a (t + 1 - a)) / r := Int.ediv_le_ediv (by omega) (by omega)
    have e2 : (-(B + r * ((t : Int) - (a : Int) + 1))) / r = (-B) / r - ((t : Int) - (a : Int) + 1) := by
      rw [show -(B + r * ((t : Int) - (a : Int) + 1)) = -B + r * (-((t : Int) - (a : Int) + 1)) by rw [Int.mul_neg]; omega, Int.add_mul_ediv_left _ _ (by omega)]
      omega
    have e3 : (-(B + r)) / r = (-B) / r - 1 := by
      rw [show -(B + r) = -B + r * (-1) by omega, Int.add_mul_ediv_left _ _ (by omega)]
      omega
    omega
theorem sum_pos {fs : List Int} (hp : ∀ f ∈ fs, 0 ≤ f) (h : 0 < fs.sum) : ∃ t, t < fs.length ∧ 0 < fs.getD t 0 := by
  by_cases hh : ∃ t, t < fs.length ∧ 0 < fs.getD t 0
  · exact hh
  · have key : ∀ i, i ≤ fs.length → pf fs i = 0 := by
      intro i
      induction i with
      | zero => intro _; rfl
      | succ i ih =>
        intro hi
        have h1 := getD_pos hp i
        have h2 : ¬ 0 < fs.getD i 0 := fun q => hh ⟨i, by omega, q⟩
        rw [pf_next, ih (by omega)]; omega
    have := key fs.length (Nat.le_refl _)
    rw [pf_len] at this
    omega
theorem sum_none {fs : List Int} (hp : ∀ f ∈ fs, 0 ≤ f) (h : ¬ 0 < fs.sum) (t : Nat) (ht : t < fs.length) : ¬ 0 < fs.getD t 0 := by
  intro hc
  have h1 := pf_next fs t
  have h2 := pf_mono hp (Nat.zero_le t)
  have h3 := pf_mono hp (show t + 1 ≤ fs.length by omega)
  rw [pf_0] at h2
  rw [pf_len] at h3
  omega
theorem late_more {fs : List Int} {r l d M N : Int} (hp : ∀ f ∈ fs, 0 ≤ f) (hr : 1 ≤ r) (hl : 0 ≤ l) (hd : 0 ≤ d) (hM : Mx (LateP fs r l) M) (hN : Mx (LateP fs r (l + d)) N) : N = if 0 < fs.sum then M + d else 0 := by
  have hv : ∀ a t, lateV fs r (l + d) a t = lateV fs r l a t + d := fun a t => by unfold lateV; omega
  by_cases hs : 0 < fs.sum
  · rw [if_pos hs]
    obtain ⟨t0, h1, h2⟩ := sum_pos hp hs
    have h0 : 0 ≤ lateV fs r l t0 t0 := by
      have hw := ws_last hp (Nat.le_refl t0) h1
      unfold lateV
      have : (-ws fs t0 (t0 + 1 - t0)) / r ≤ -1 ∨ True := .inr trivial
      have e : (-ws fs t0 (t0 + 1 - t0)) / r < 0 := Int.ediv_neg_of_neg_of_pos (by omega) (by omega)
      omega
    have hm : lateV fs r l t0 t0 ≤ M := hM.le _ (.inr ⟨t0, t0, h1, h2, Nat.le_refl _, rfl⟩)
    have hn := hN.le _ (.inr ⟨t0, t0, h1, h2, Nat.le_refl _, rfl⟩)
    rw [hv] at hn
    refine Int.le_antisymm ?_ ?_
    · rcases hN.at_ with e | ⟨t, a, q1, q2, q3, e⟩
      · omega
      · have := hM.le _ (.inr ⟨t, a, q1, q2, q3, rfl⟩)
        rw [hv] at e
        omega
    · rcases hM.at_ with e | ⟨t, a, q1, q2, q3, e⟩
      · omega
      · have := hN.le _ (.inr ⟨t, a, q1, q2, q3, rfl⟩)
        rw [hv] at this
        omega
  · rw [if_neg hs]
    rcases hN.at_ with e | ⟨t, a, q1, q2, q3, e⟩
    · exact e
    · exact absurd q2 (sum_none hp hs t q1)
end G50
set_option maxHeartbeats 2000000
/-! R50k: _law_traffic. -/
namespace G50
open PySem PySem.Spec PyProof.Rows L2 Pv
/-- drawn traffic -/
structure Dr (fs : List Int) : Prop where
  len : fs.length ≤ 40
  rg : ∀ f ∈ fs, 0 ≤ f ∧ f ≤ 39
theorem Dr.tr {fs : List Int} (h : Dr fs) : Tr fs := ⟨by have := h.len; omega, fun f hf => by have := h.rg f hf; omega⟩
abbrev trE (size : Int) (fs : List Int) (o3 : Option D) : Pv.Env := [some (.loc 1), some (.p (.int size)), some (.p (tI fs)), o3.map T.p]
theorem r_lawtraffic {k : Int} {C p : O} (h : PotOk k p) (hk : k ≤ 800000) : ∃ (p' : O) (fs : List Int), PotOk (k + 100) p' ∧ Dr fs ∧ m__law_traffic [.loc 1] [C, p] = some (.p (tI fs), [C, p']) := by
  obtain ⟨p1, size, hu, hp1, e1⟩ := p_of (C := C) (R := []) (xs := [3, 9, 40]) h (by omega) (by simp -implicitDefEqProofs) (by simp -implicitDefEqProofs)
  obtain ⟨p2, u, hu2, hp2, e2⟩ := p_of (C := C) (R := []) (xs := [4, 41]) hp1 (by omega) (by simp -implicitDefEqProofs) (by simp -implicitDefEqProofs)
  have hs : 1 ≤ size ∧ size ≤ 40 := by
    simp at hu; omega
  have hs2 : 1 ≤ u ∧ u ≤ 41 := by
    simp at hu2; omega
  obtain ⟨p3, d, e3, hp3, h3, h4⟩ := p_take (C := C) (R := [.lst [.int 4, .int 41]]) (u := u) hp2 (by omega) (by omega) (by omega)
  obtain ⟨n, rfl⟩ := Int.eq_ofNat_of_zero_le h3
  have hn : n ≤ 40 := by omega
  simp -implicitDefEqProofs only [List.nil_append, List.length_nil, Nat.zero_add, List.map_cons, List.map_nil] at e1 e2
  have key : Rn (b__law_traffic 2 [some (.loc 1), none, none, none] [C, p]) fun o e s => ∃ p' fs, o = .rt (.p (tI fs)) ∧ s = [C, p'] ∧ PotOk (k + 100) p' ∧ Dr fs := by
    unfold b__law_traffic
    refine rn_seq (env' := trE size [] none) (S' := [C, p1]) ?_ ?_
    · have l0 : consF (callF 2 m__law_of (consF (varF 0) (consF (lstF (consF (conF (.int 3)) (consF (conF (.int 9)) (consF (conF (.int 40)) nilF)))) nilF))) (consF (tupF nilF) nilF) [some (.loc 1), none, none, none] [C, p] = some ([.p (.int size), .p (.tuple [])], [C, p1, .lst [.int 3, .int 9, .int 40]]) := by
        simp -implicitDefEqProofs [allP, e1, tupT]
      rw [s_par, l0, Option.bind_some]
      simp -implicitDefEqProofs [parK, gcTs, gcT, gcOb]
    refine rn_seq2 (rn_forT (ys := List.range n) (emb := natI) (S1 := [C, p3, .lst [.int 4, .int 41]]) (gd := []) (i_rangeN (by simp -implicitDefEqProofs [allP, e2, e3]) (by omega)) (fun i e s => ∃ p' fs o3, s = [C, p', .lst [.int 4, .int 41]] ∧ e = trE size fs o3 ∧ PotOk (k + 3 + 2 * i) p' ∧ fs.length = i ∧ ∀ f ∈ fs, 0 ≤ f ∧ f ≤ 39) (fun _ _ _ _ => gd_nil) ⟨p3, [], none, rfl, rfl, hp3.mono (by omega), rfl, fun f hf => by simp at hf⟩ (fun i x e s hx ⟨q, fs, o3, hs', he, hq, hl, hfs⟩ => ?_) (fun e s ⟨q, fs, o3, hs', he, hq, hl, hfs⟩ => ?_))
    · subst hs' he
      obtain ⟨rfl, hlt⟩ := range_at hx
      obtain ⟨q1, f, g1, hq1, b1, b2⟩ := p_take (C := C) (R := [.lst [.int 4, .int 41]]) (u := size) hq (by omega) (by omega) (by omega)
      obtain ⟨q2, z, g2, hq2, b3, b4⟩ := p_take (C := C) (R := [.lst [.int 4, .int 41]]) (u := 3) hq1 (by omega) (by omega) (by omega)
      have hz : ∃ w : Int, (w = 0 ∨ w = 1) ∧ (if 0 < z then (1 : Int) else 0) = w := by
        by_cases hz : 0 < z
        · exact ⟨1, .inr rfl, by simp -implicitDefEqProofs [hz]⟩
        · exact ⟨0, .inl rfl, by simp -implicitDefEqProofs [hz]⟩
      obtain ⟨w, hw, ew⟩ := hz
      have hv : 0 ≤ f * w ∧ f * w ≤ 39 := by
        rcases hw with rfl | rfl
        · simp
        · simp; omega
      have cm : CMul f w := cmul_l (by omega) (by omega)
      have em : tI (fs ++ [f * w]) = PyData.tuple (fs.map PyData.int ++ [.int (f * w)]) := by unfold tI; rw [List.map_append]; rfl
      refine ⟨trE size fs (some (natI x)), [C, q, .lst [.int 4, .int 41]], by simp -implicitDefEqProofs, ?_⟩
      refine rn_nx (env' := trE size (fs ++ [f * w]) (some (natI x))) (S' := [C, q2, .lst [.int 4, .int 41]]) ?_ ⟨q2, fs ++ [f * w], some (natI x), rfl, by simp -implicitDefEqProofs [forget], hq2.mono (by omega), by simp -implicitDefEqProofs [hl], fun y hy => ?_⟩
      · show setS 2 _ _ _ _ = some (.nx, [some (.loc 1), some (.p (.int size)), some (.p (tI (fs ++ [f * w]))), some (.p (natI x))], _)
        rw [em]
        have hb : fs.length + 1 ≤ sizeLine := by rw [sizeLine_eq]; omega
        rw [s_set, e_bin]
        simp -implicitDefEqProofs [g1, g2, ew, cm, tupT, allP, hb]
      · rcases List.mem_append.mp hy with hy | hy
        · exact hfs y hy
        · rw [List.mem_singleton.mp hy]; exact hv
    · subst hs' he
      rw [List.length_range] at hl hq
      exact rn_ret (v := .p (tI fs)) (S' := [C, q]) (by simp -implicitDefEqProofs [forget]) ⟨q, fs, rfl, rfl, hq.mono (by omega), by omega, hfs⟩
  obtain ⟨o, e, s, h1, q, fs, rfl, rfl, hq, hd⟩ := key
  exact ⟨q, fs, hq, hd, m_ret h1 (by simp -implicitDefEqProofs)⟩
end G50
set_option maxHeartbeats 2000000
/-! R50l: _law_is_shaped_right. -/
namespace G50
open PySem PySem.Spec PyProof.Rows L2 Pv
theorem sum_le39 : ∀ fs : List Int, (∀ f ∈ fs, 0 ≤ f ∧ f ≤ 39) → 0 ≤ fs.sum ∧ fs.sum ≤ 39 * fs.length
  | [], _ => by simp -implicitDefEqProofs
  | x :: fs, h => by
    have ih := sum_le39 fs fun f hf => h f (List.mem_cons_of_mem _ hf)
    have := h x List.mem_cons_self
    simp -implicitDefEqProofs only [List.sum_cons, List.length_cons]
    omega
theorem Dr.nn {fs : List Int} (h : Dr fs) : ∀ f ∈ fs, 0 ≤ f := fun f hf => (h.rg f hf).1
theorem Dr.sum {fs : List Int} (h : Dr fs) : 0 ≤ fs.sum ∧ fs.sum ≤ 1560 := by
  have := sum_le39 fs h.rg
  have := h.len
  omega
abbrev shE (fs : List Int) (r b : Int) (told : D) (x5 x6 x7 x8 x9 x10 x11 : Option T) : Pv.Env := [some (.loc 1), some (.p (tI fs)), some (.p (.int r)), some (.p (.int b)), some (.p told), x5, x6, x7, x8, x9, x10, x11]
theorem sh_lap (C p : O) (fs : List Int) (r b : Int) (told : D) (n N : Nat) (hN : N ≤ 2000) (hn : n ≤ N) (h1 : ∀ m, m < N → on b r fs m) (h2 : ¬ on b r fs N) (o10 o11 : Option D) (m : Nat) :
    ∃ o11' : Option D, ifS (orT (asT (binF ltI (varF 9) (argF lenT (consF (varF 1) nilF)))) (asT (binF gtI (varF 7) (conF (.int 0))))) (seqS (setS 7 (binF addT (varF 7) (ifF (asT (binF ltI (varF 9) (argF lenT (consF (varF 1) nilF)))) (binF ixT (varF 1) (varF 9)) (conF (.int 0))))) (seqS (setS 11 (argF min2T (consF (varF 7) (consF (varF 6) nilF)))) (asgS (tupF (consF (binF subI (varF 7) (varF 11)) (consF (argF min2T (consF (binF addT (varF 3) (varF 2)) (consF (binF addT (binF subI (varF 6) (varF 11)) (varF 2)) nilF))) (consF (binF addT (varF 8) (tupF (consF (varF 11) nilF))) (consF (binF addT (varF 9) (conF (.int 1))) nilF))))) (tupG 4 (consG (nameG 7) (consG (nameG 6) (consG (nameG 8) (consG (nameG 9) nilG)))))))) nextS m
      (shE fs r b told none (some (.p (.int (sim b r fs n).f))) (some (.p (.int (sim b r fs n).w))) (some (.p (tI (gone b r fs n)))) (some (.p (natI n))) (o10.map T.p) (o11.map T.p)) [C, p]
    = some (.nx, shE fs r b told none (some (.p (.int (sim b r fs (if n < N then n + 1 else n)).f))) (some (.p (.int (sim b r fs (if n < N then n + 1 else n)).w))) (some (.p (tI (gone b r fs (if n < N then n + 1 else n))))) (some (.p (natI (if n < N then n + 1 else n)))) (o10.map T.p) (o11'.map T.p), [C, p]) := by
  by_cases hlt : n < N
  · rw [if_pos hlt]
    have hon := h1 n hlt
    have hw1 : (sim b r fs (n + 1)).w = (sim b r fs n).w + fs.getD n 0 - go b r fs n := rfl
    have hf1 : (sim b r fs (n + 1)).f = mn (b + r) ((sim b r fs n).f - go b r fs n + r) := rfl
    have hgo : go b r fs n = mn ((sim b r fs n).w + fs.getD n 0) (sim b r fs n).f := rfl
    have gs := gone_succ b r fs n
    have gl := gone_len b r fs n
    rw [hw1, hf1, gs]
    have em : tI (gone b r fs n ++ [go b r fs n]) = PyData.tuple ((gone b r fs n).map PyData.int ++ [.int (go b r fs n)]) := by unfold tI; rw [List.map_append]; rfl
    rw [em]
    unfold on at hon
    generalize (sim b r fs n).w = w at *
    generalize (sim b r fs n).f = f at *
    generalize go b r fs n = g at *
    generalize gone b r fs n = F at *
    refine ⟨some (.int g), ?_⟩
    have hx : ∃ x, fs.getD n 0 = x := ⟨_, rfl⟩
    obtain ⟨x, hx⟩ := hx
    have body : seqS (setS 7 (binF addT (varF 7) (ifF (asT (binF ltI (varF 9) (argF lenT (consF (varF 1) nilF)))) (binF ixT (varF 1) (varF 9)) (conF (.int 0))))) (seqS (setS 11 (argF min2T (consF (varF 7) (consF (varF 6) nilF)))) (asgS (tupF (consF (binF subI (varF 7) (varF 11)) (consF (argF min2T (consF (binF addT (varF 3) (varF 2)) (consF (binF addT (binF subI (varF 6) (varF 11)) (varF 2)) nilF))) (consF (binF addT (varF 8) (tupF (consF (varF 11) nilF))) (consF (binF addT (varF 9) (conF (.int 1))) nilF))))) (tupG 4 (consG (nameG 7) (consG (nameG 6) (consG (nameG 8) (consG (nameG 9) nilG))))))) m
      (shE fs r b told none (some (.p (.int f))) (some (.p (.int w))) (some (.p (tI F))) (some (.p (natI n))) (o10.map T.p) (o11.map T.p)) [C, p]
      = some (.nx, shE fs r b told none (some (.p (.int (mn (b + r) (f - g + r))))) (some (.p (.int (w + fs.getD n 0 - g)))) (some (.p (.tuple (F.map PyData.int ++ [.int g])))) (some (.p (natI (n + 1)))) (o10.map T.p) (some (.p (.int g))), [C, p]) := by
      refine seq_go (env' := shE fs r b told none (some (.p (.int f))) (some (.p (.int (w + fs.getD n 0)))) (some (.p (tI F))) (some (.p (natI n))) (o10.map T.p) (o11.map T.p)) (S' := [C, p]) ?_ ?_
      · by_cases hlt : n < fs.length
        · have hat := at_nat (getD_some hlt) (i := (n : Int)) rfl
          generalize fs.getD n 0 = x at *
          simp -implicitDefEqProofs [natI, hlt, hat]
        · have hge : fs.length ≤ n := by omega
          rw [getD_out hge]
          simp -implicitDefEqProofs [natI, hge]
      · rw [hgo]
        generalize fs.getD n 0 = x at *
        refine seq_go (env' := shE fs r b told none (some (.p (.int f))) (some (.p (.int (w + x)))) (some (.p (tI F))) (some (.p (natI n))) (o10.map T.p) (some (.p (.int (mn (w + x) f))))) (S' := [C, p]) ?_ ?_
        · simp -implicitDefEqProofs [mn]
        · have hz : F.length + 1 ≤ sizeLine := by rw [sizeLine_eq]; omega
          generalize mn (w + x) f = g at *
          simp -implicitDefEqProofs [natI, mn, tupT, allP, hz]
    have tst : orT (asT (binF ltI (varF 9) (argF lenT (consF (varF 1) nilF)))) (asT (binF gtI (varF 7) (conF (.int 0)))) (shE fs r b told none (some (.p (.int f))) (some (.p (.int w))) (some (.p (tI F))) (some (.p (natI n))) (o10.map T.p) (o11.map T.p)) [C, p] = some (true, [C, p]) := by
      by_cases hl : n < fs.length
      · simp -implicitDefEqProofs [natI, hl]
      · have hge : fs.length ≤ n := by omega
        have hw : 0 < w := hon.resolve_left hl
        simp -implicitDefEqProofs [natI, hge, hw]
    rw [s_if, tst, Option.bind_some]
    exact body
  · have : n = N := by omega
    subst this
    rw [if_neg hlt]
    refine ⟨o11, ?_⟩
    unfold on at h2
    have hge : fs.length ≤ n := by omega
    have hw : ¬ 0 < (sim b r fs n).w := fun q => h2 (.inr q)
    generalize (sim b r fs n).w = w at *
    generalize (sim b r fs n).f = f at *
    generalize gone b r fs n = F at *
    have hw' : w ≤ 0 := by omega
    refine if_nx (S' := [C, p]) ?_ rfl
    simp -implicitDefEqProofs [natI, hge, hw']
end G50
set_option maxHeartbeats 2000000
/-! R50m: _law_is_shaped_right, whole. -/
namespace G50
open PySem PySem.Spec PyProof.Rows L2 Pv
theorem sh_loop (C p : O) (fs : List Int) (r b : Int) (told : D) (N : Nat) (hN : N ≤ 2000) (h1 : ∀ m, m < N → on b r fs m) (h2 : ¬ on b r fs N) (n : Nat) (Q : Out → Pv.Env → Sto → Prop)
    (hQ : ∀ o10 o11 : Option D, Q .nx (shE fs r b told none (some (.p (.int (sim b r fs N).f))) (some (.p (.int (sim b r fs N).w))) (some (.p (tI (gone b r fs N)))) (some (.p (natI N))) (o10.map T.p) (o11.map T.p)) [C, p]) :
    Rn (forS (range1I (consF (conF (.int 2200)) nilF)) (nameG 10) (ifS (orT (asT (binF ltI (varF 9) (argF lenT (consF (varF 1) nilF)))) (asT (binF gtI (varF 7) (conF (.int 0))))) (seqS (setS 7 (binF addT (varF 7) (ifF (asT (binF ltI (varF 9) (argF lenT (consF (varF 1) nilF)))) (binF ixT (varF 1) (varF 9)) (conF (.int 0))))) (seqS (setS 11 (argF min2T (consF (varF 7) (consF (varF 6) nilF)))) (asgS (tupF (consF (binF subI (varF 7) (varF 11)) (consF (argF min2T (consF (binF addT (varF 3) (varF 2)) (consF (binF addT (binF subI (varF 6) (varF 11)) (varF 2)) nilF))) (consF (binF addT (varF 8) (tupF (consF (varF 11) nilF))) (consF (binF addT (varF 9) (conF (.int 1))) nilF))))) (tupG 4 (consG (nameG 7) (consG (nameG 6) (consG (nameG 8) (consG (nameG 9) nilG)))))))) nextS) n
      (shE fs r b told none (some (.p (.int (sim b r fs 0).f))) (some (.p (.int (sim b r fs 0).w))) (some (.p (tI (gone b r fs 0)))) (some (.p (natI 0))) none none) [C, p]) Q := by
  refine rn_forT (ys := List.range 2200) (emb := natI) (S1 := [C, p]) (gd := []) (i_rangeN (c := 2200) (by simp -implicitDefEqProofs) (by omega)) (fun i e s => s = [C, p] ∧ ∃ o10 o11 : Option D, e = shE fs r b told none (some (.p (.int (sim b r fs (if i < N then i else N)).f))) (some (.p (.int (sim b r fs (if i < N then i else N)).w))) (some (.p (tI (gone b r fs (if i < N then i else N))))) (some (.p (natI (if i < N then i else N)))) (o10.map T.p) (o11.map T.p)) (fun _ _ _ _ => gd_nil) ⟨rfl, none, none, ?_⟩ (fun i x e s hx ⟨hs, o10, o11, he⟩ => ?_) (fun e s ⟨hs, o10, o11, he⟩ => ?_)
  · have : (if 0 < N then 0 else N) = 0 := by split <;> omega
    rw [this]; rfl
  · subst hs he
    obtain ⟨rfl, hj⟩ := range_at hx
    obtain ⟨m, hm⟩ : ∃ m, (if x < N then x else N) = m := ⟨_, rfl⟩
    have hmN : m ≤ N := by rw [← hm]; split <;> omega
    have hnx : (if x + 1 < N then x + 1 else N) = if m < N then m + 1 else m := by rw [← hm]; split <;> split <;> (try split) <;> omega
    rw [hm, hnx]
    obtain ⟨o11', e1⟩ := sh_lap C p fs r b told m N hN hmN h1 h2 (some (natI x)) o11 (gdTop n [])
    generalize (if m < N then m + 1 else m) = m' at *
    refine ⟨shE fs r b told none (some (.p (.int (sim b r fs m).f))) (some (.p (.int (sim b r fs m).w))) (some (.p (tI (gone b r fs m)))) (some (.p (natI m))) (some (.p (natI x))) (o11.map T.p), [C, p], by simp -implicitDefEqProofs, ?_⟩
    generalize (sim b r fs m) = q at *
    generalize (sim b r fs m') = q' at *
    generalize (gone b r fs m) = F at *
    generalize (gone b r fs m') = F' at *
    exact rn_nx e1 ⟨rfl, some (natI x), o11', by simp -implicitDefEqProofs [forget]⟩
  · subst hs he
    have : (if (List.range 2200).length < N then (List.range 2200).length else N) = N := by rw [List.length_range]; split <;> omega
    rw [this]
    have := hQ o10 o11
    generalize (sim b r fs N) = q at *
    generalize (gone b r fs N) = F at *
    have e : forget [C, p].length (shE fs r b told none (some (.p (.int q.f))) (some (.p (.int q.w))) (some (.p (tI F))) (some (.p (natI N))) (o10.map T.p) (o11.map T.p)) = shE fs r b told none (some (.p (.int q.f))) (some (.p (.int q.w))) (some (.p (tI F))) (some (.p (natI N))) (o10.map T.p) (o11.map T.p) := by simp -implicitDefEqProofs [forget]
    rw [e]
    exact this
theorem r_shapedright {k : Int} {C p : O} (h : PotOk k p) (hk : k ≤ 800000) (fs : List Int) (hD : Dr fs) (r : Int) (hr : 0 ≤ r ∧ r ≤ 100) : ∃ p', PotOk (k + 1) p' ∧ m__law_is_shaped_right [.loc 1, .p (tI fs), .p (.int r)] [C, p] = some (.p (.bool true), [C, p']) := by
  obtain ⟨q, b, e1, hq, hb1, hb2⟩ := p_take (C := C) (R := []) (u := 20) h (by omega) (by omega) (by omega)
  have hp := hD.nn
  have hF := hD.tr
  have hS := hD.sum
  have hb : 0 ≤ b ∧ b ≤ 400 := by omega
  have key : Rn (b__law_is_shaped_right 2 [some (.loc 1), some (.p (tI fs)), some (.p (.int r)), none, none, none, none, none, none, none, none, none] [C, p]) fun o e s => o = .rt (.p (.bool true)) ∧ s = [C, q] := by
    unfold b__law_is_shaped_right
    refine rn_seq (env' := [some (.loc 1), some (.p (tI fs)), some (.p (.int r)), some (.p (.int b)), none, none, none, none, none, none, none, none]) (S' := [C, q]) (by simp -implicitDefEqProofs [e1]) ?_
    by_cases hr0 : r = 0
    · subst hr0
      by_cases hw : fs.sum ≤ b
      · obtain ⟨f1, f2, f3⟩ := fit_ok (isB_zero hp) hw
        have l := r_let C q b 0 fs fs.length (by have := hD.len; omega) f1 (.inl f2)
        rw [if_neg f2, f3] at l
        have a1 := r_shaped C q b 0 fs hb hr hF _ l
        refine rn_seq (env' := shE fs 0 b (tI fs) none none none none none none none) (S' := [C, q]) (by simp -implicitDefEqProofs [tupT, allP, a1]) ?_
        refine rn_seq2 (rn_if1 (S' := [C, q]) (by simp -implicitDefEqProofs) ?_)
        refine rn_seq (env' := shE fs 0 b (tI fs) (some (.p (.bool true))) none none none none none none) (S' := [C, q]) (by simp -implicitDefEqProofs [hw]) ?_
        have eq : ∀ S, eqT false (.p (tI fs)) (.p (tI fs)) S = some (.p (.bool true), S) := fun S => eq_same rfl rfl (dk_ints fs)
        exact rn_ret (v := .p (.bool true)) (S' := [C, q]) (by simp -implicitDefEqProofs [eq]) ⟨rfl, rfl⟩
      · obtain ⟨N, n1, n2, n3, n4⟩ := dry_bad hp hb1 (by omega : b < fs.sum)
        have l := r_let C q b 0 fs N (by have := hD.len; omega) n2 (.inr ⟨by have := hD.len; omega, n3, n4⟩)
        rw [if_pos n3] at l
        have a1 := r_shaped C q b 0 fs hb hr hF _ l
        have hw' : ¬ fs.sum ≤ b := hw
        refine rn_seq (env' := shE fs 0 b .none none none none none none none none) (S' := [C, q]) (by simp -implicitDefEqProofs [tupT, allP, a1]) ?_
        refine rn_seq2 (rn_if1 (S' := [C, q]) (by simp -implicitDefEqProofs) ?_)
        refine rn_seq (env' := shE fs 0 b .none (some (.p (.bool false))) none none none none none none) (S' := [C, q]) (by rw [← decide_eq_false hw]; simp) ?_
        exact rn_ret (v := .p (.bool true)) (S' := [C, q]) (by simp -implicitDefEqProofs) ⟨rfl, rfl⟩
    · obtain ⟨N, n1, n2, n3⟩ := end_ok (M := 1560) hp hb1 (show 1 ≤ r by omega) (by omega)
      have hN : N ≤ 1600 := by have := hD.len; omega
      have l := r_let C q b r fs N (by omega) (fun n hn => ⟨n3 n hn, fun hbad => hr0 hbad.2.1⟩) (.inl n2)
      rw [if_neg n2] at l
      have a1 := r_shaped C q b r fs hb hr hF _ l
      have hsum := off_facts hp hb1 hr.1 n2
      have hfit := gone_fits (r := r) hp hb1 hr.1 N
      have hgl := gone_len b r fs N
      have hgp : ∀ x ∈ gone b r fs N, 0 ≤ x := fun x hx => by
        unfold gone at hx
        obtain ⟨m, _, rfl⟩ := List.mem_map.mp hx
        exact (go_pos hp hb1 hr.1 m).1
      refine rn_seq (env' := shE fs r b (tI (gone b r fs N)) none none none none none none none) (S' := [C, q]) (by generalize gone b r fs N = F at *; simp [tupT, allP, a1]) ?_
      refine rn_seq (env' := shE fs r b (tI (gone b r fs N)) none none none none none none none) (S' := [C, q]) (if_nx (S' := [C, q]) (by simp -implicitDefEqProofs [hr0]) rfl) ?_
      refine rn_seq (env' := shE fs r b (tI (gone b r fs N)) none (some (.p (.int (sim b r fs 0).f))) (some (.p (.int (sim b r fs 0).w))) (some (.p (tI (gone b r fs 0)))) (some (.p (natI 0))) none none) (S' := [C, q]) (by
        have e1 : (sim b r fs 0).f = b + r := rfl
        have e2 : (sim b r fs 0).w = 0 := rfl
        have e3 : gone b r fs 0 = [] := rfl
        rw [e1, e2, e3]
        generalize gone b r fs N = F at *
        simp -implicitDefEqProofs [tupT, allP, natI]) ?_
      refine rn_seq2 (sh_loop C q fs r b (tI (gone b r fs N)) N (by omega) n3 n2 2 _ fun o10 o11 => ?_)
      show Rn _ _
      generalize (sim b r fs N) = sm
      generalize gone b r fs N = F at *
      have eq : ∀ S, eqT true (.p (tI F)) (.p (tI F)) S = some (.p (.bool false), S) := fun S => eq_same rfl rfl (dk_ints F)
      refine rn_seq (env' := shE fs r b (tI F) none (some (.p (.int sm.f))) (some (.p (.int sm.w))) (some (.p (tI F))) (some (.p (natI N))) (o10.map T.p) (o11.map T.p)) (S' := [C, q]) (if_nx (S' := [C, q]) (by simp -implicitDefEqProofs [eq, hsum]) rfl) ?_
      have hmx := mx_max (ns := F ++ [0]) (by simp -implicitDefEqProofs)
      have em : F.map PyData.int ++ [PyData.int 0] = (F ++ [0]).map PyData.int := by rw [List.map_append]; rfl
      have q2 := fun S => e_maxP (S := S) (ns := F ++ [0]) (by simp -implicitDefEqProofs)
      rw [← em] at q2
      generalize maxI (F ++ [0]) = M at *
      have hz : F.length + 1 ≤ sizeLine := by rw [sizeLine_eq]; omega
      by_cases c1 : F.length ≤ 500
      · have c1' : (F.length : Int) ≤ 500 := by omega
        by_cases c2 : M ≤ 1000
        · have hT : Tr F := ⟨c1, fun x hx => ⟨hgp x hx, by have := hmx.le x (List.mem_append_left _ hx); omega⟩⟩
          obtain ⟨B, hB, a2⟩ := r_least [C, q] F r hT hr
          have hBb : B ≤ b := by
            obtain ⟨a, m, hl, e⟩ := hB.win_at
            have := hfit a m (by omega)
            omega
          obtain ⟨d, hd, a3⟩ := r_fits [C, q] F b r B hT hB hb hr
          have hd' : d = .tuple [.str "fits"] := by
            rcases hd with ⟨_, h⟩ | ⟨h, _⟩
            · exact h
            · omega
          subst hd'
          have eq2 : ∀ S, eqT false (.p (.tuple [.str "fits"])) (.p (.tuple [.str "fits"])) S = some (.p (.bool true), S) := fun S => eq_same rfl rfl (dk_tup fun x hx => by
            have : x = .str "fits" := by simpa using hx
            subst this; exact dk_str sk_fits)
          refine rn_seq2 (rn_if1 (S' := [C, q]) (by simp -implicitDefEqProofs [c1', hz, q2, c2, tupT, allP]) ?_)
          exact rn_ret (v := .p (.bool true)) (S' := [C, q]) (by simp -implicitDefEqProofs [tupT, allP, a2, a3, eq2, hBb]) ⟨rfl, rfl⟩
        · have c2' : 1000 < M := by omega
          refine rn_seq (env' := shE fs r b (tI F) none (some (.p (.int sm.f))) (some (.p (.int sm.w))) (some (.p (tI F))) (some (.p (natI N))) (o10.map T.p) (o11.map T.p)) (S' := [C, q]) (if_nx (S' := [C, q]) (by simp -implicitDefEqProofs [c1', hz, q2, c2', tupT, allP]) rfl) ?_
          exact rn_ret (v := .p (.bool true)) (S' := [C, q]) (by simp -implicitDefEqProofs) ⟨rfl, rfl⟩
      · have c1' : 500 < (F.length : Int) := by omega
        refine rn_seq (env' := shE fs r b (tI F) none (some (.p (.int sm.f))) (some (.p (.int sm.w))) (some (.p (tI F))) (some (.p (natI N))) (o10.map T.p) (o11.map T.p)) (S' := [C, q]) (if_nx (S' := [C, q]) (by simp -implicitDefEqProofs [c1']) rfl) ?_
        exact rn_ret (v := .p (.bool true)) (S' := [C, q]) (by simp -implicitDefEqProofs) ⟨rfl, rfl⟩
  obtain ⟨o, e, s, h1, rfl, rfl⟩ := key
  exact ⟨q, hq, m_ret h1 (by simp -implicitDefEqProofs)⟩
end G50
set_option maxHeartbeats 2000000
/-! R50n: _law_are_lates_right. -/
namespace G50
open PySem PySem.Spec PyProof.Rows L2 Pv
theorem rp_none : ∃ x : Str, PyData.strOk x = true ∧ ∀ S, reprNT [.p .none] S = some (.p (.str x), S) := ⟨"None", by decide +kernel, fun S => rfl⟩
theorem rp_zero : ∃ x : Str, PyData.strOk x = true ∧ ∀ S, reprNT [.p (.int 0)] S = some (.p (.str x), S) := ⟨toString (0 : Int), by decide +kernel, fun S => rfl⟩
abbrev ltE (fs : List Int) (r : Int) (x3 x4 x5 x6 x7 x8 x9 : Option T) : Pv.Env := [some (.loc 1), some (.p (tI fs)), some (.p (.int r)), x3, x4, x5, x6, x7, x8, x9]
theorem r_latesright {k : Int} {C p : O} (h : PotOk k p) (hk : k ≤ 800000) (fs : List Int) (hD : Dr fs) (r : Int) (hr : 0 ≤ r ∧ r ≤ 100) : ∃ p', PotOk (k + 3) p' ∧ m__law_are_lates_right [.loc 1, .p (tI fs), .p (.int r)] [C, p] = some (.p (.bool true), [C, p']) := by
  obtain ⟨q1, l, e1, hq1, hl1, hl2⟩ := p_take (C := C) (R := []) (u := 100) h (by omega) (by omega) (by omega)
  obtain ⟨q2, m, e2, hq2, hm1, hm2⟩ := p_take (C := C) (R := []) (u := 101) hq1 (by omega) (by omega) (by omega)
  obtain ⟨q3, t, e3, hq3, ht1, ht2⟩ := p_take (C := C) (R := []) (u := 1000001) hq2 (by omega) (by omega) (by omega)
  have hp := hD.nn
  have hF := hD.tr
  have hlen := hD.len
  have key : Rn (b__law_are_lates_right 2 (ltE fs r none none none none none none none) [C, p]) fun o e s => o = .rt (.p (.bool true)) ∧ (s = [C, q2] ∨ s = [C, q3]) := by
    unfold b__law_are_lates_right
    refine rn_seq (env' := ltE fs r (some (.p (.int l))) (some (.p (.int m))) none none none none none) (S' := [C, q2]) (by simp -implicitDefEqProofs [e1, e2, gcTs, gcT, gcOb, parK]) ?_
    by_cases hr0 : r = 0
    · subst hr0
      have a1 := r_lateness0 C q2 fs l hF (by omega)
      refine rn_seq2 (rn_if1 (S' := [C, q2]) (by simp -implicitDefEqProofs) ?_)
      by_cases hs : 0 < fs.sum
      · obtain ⟨x, hx, rp⟩ := rp_none
        have eq : ∀ S, eqT false (.p (.str x)) (.p (.str x)) S = some (.p (.bool true), S) := fun S => eq_same rfl rfl (dk_str hx)
        rw [if_pos hs] at a1
        exact rn_ret (v := .p (.bool true)) (S' := [C, q2]) (by simp -implicitDefEqProofs [tupT, allP, a1, rp, hs, eq]) ⟨rfl, .inl rfl⟩
      · obtain ⟨x, hx, rp⟩ := rp_zero
        have eq : ∀ S, eqT false (.p (.str x)) (.p (.str x)) S = some (.p (.bool true), S) := fun S => eq_same rfl rfl (dk_str hx)
        rw [if_neg hs] at a1
        have hs' : fs.sum ≤ 0 := by omega
        exact rn_ret (v := .p (.bool true)) (S' := [C, q2]) (by simp -implicitDefEqProofs [tupT, allP, a1, rp, hs', eq]) ⟨rfl, .inl rfl⟩
    have hr1 : 1 ≤ r ∧ r ≤ 100 := by omega
    obtain ⟨M, hM, a1⟩ := r_lawlate [C, q2] fs r l (by omega) hr1
    obtain ⟨M', hM', a2⟩ := r_lateness C q2 fs r l hF hr1 (by omega)
    obtain ⟨N, hN, a3⟩ := r_lateness C q2 fs r (l + m) hF hr1 (by omega)
    have : M' = M := hM'.uniq hM fun _ => Iff.rfl
    subst this
    have hNN := late_more hp hr1.1 hl1 hm1 hM hN
    obtain ⟨B, hB, a4⟩ := r_burst [C, q2] fs r (by omega) hr
    have hBn := hB.nonneg
    have hle := late_le hr1.1 hl1 hB hM
    obtain ⟨H, hH, a5⟩ := r_held [C, q2] fs r l hF hr (by omega)
    have hHl := held_le hr1.1 hl1 hB hH
    have dv := cdiv_r hr1
    have cm : ∀ x, CMul r x := fun x => cmul_l (by omega) (by omega)
    refine rn_seq (env' := ltE fs r (some (.p (.int l))) (some (.p (.int m))) none none none none none) (S' := [C, q2]) (if_nx (S' := [C, q2]) (by simp -implicitDefEqProofs [hr0]) rfl) ?_
    refine rn_seq (env' := ltE fs r (some (.p (.int l))) (some (.p (.int m))) (some (.p (.int M'))) none none none none) (S' := [C, q2]) (by simp -implicitDefEqProofs [tupT, allP, a1]) ?_
    refine rn_seq (env' := ltE fs r (some (.p (.int l))) (some (.p (.int m))) (some (.p (.int M'))) none none none none) (S' := [C, q2]) (if_nx (S' := [C, q2]) (by simp -implicitDefEqProofs [tupT, allP, a2]) rfl) ?_
    refine rn_seq (env' := ltE fs r (some (.p (.int l))) (some (.p (.int m))) (some (.p (.int M'))) none none none none) (S' := [C, q2]) (if_nx (S' := [C, q2]) (by
      by_cases hs : 0 < fs.sum
      · rw [if_pos hs] at hNN
        simp -implicitDefEqProofs [tupT, allP, a3, hs, hNN]
      · rw [if_neg hs] at hNN
        have hs' : fs.sum ≤ 0 := by omega
        simp -implicitDefEqProofs [tupT, allP, a3, hs', hNN]) rfl) ?_
    refine rn_seq (env' := ltE fs r (some (.p (.int l))) (some (.p (.int m))) (some (.p (.int M'))) (some (.p (.int B))) none none none) (S' := [C, q2]) (by simp -implicitDefEqProofs [a4]) ?_
    by_cases hB4 : 400 < B
    · refine rn_seq2 (rn_if1 (S' := [C, q2]) (by simp -implicitDefEqProofs [hB4]) ?_)
      exact rn_ret (v := .p (.bool true)) (S' := [C, q2]) (by simp -implicitDefEqProofs) ⟨rfl, .inl rfl⟩
    have hB4' : B ≤ 400 := by omega
    have hBr : B + r ≠ 0 := by omega
    obtain ⟨z, hz, a6⟩ := r_latemost C q2 B r l ⟨hBn, hB4'⟩ hr1 (by omega)
    obtain ⟨z', hz', a7⟩ := r_latemost C q2 B r (l + m) ⟨hBn, hB4'⟩ hr1 (by omega)
    have hW2 : worst B r (l + m) = worst B r l + m := by unfold worst; omega
    rw [hW2] at a7
    have hW : l + -(-(B + r) / r) - 1 = worst B r l := rfl
    have a8 := r_heldmost C q2 B r l ⟨hBn, hB4'⟩ hr1 (by omega)
    have a9 := r_letin [C, q3] B r t ⟨hBn, hB4'⟩ hr (by omega)
    have a10 := r_passed [C, q3] r l t hr (by omega) (by omega)
    generalize worst B r l = W at *
    have cut : cutL [PyData.str "late", .int W, z] none (some 2) = [.str "late", .int W] := cut_to [PyData.str "late", .int W, z] 2 (by simp -implicitDefEqProofs)
    have eq : ∀ S, eqT true (.p (.tuple [.str "late", .int W])) (.p (.tuple [.str "late", .int W])) S = some (.p (.bool false), S) := fun S => eq_same rfl rfl (dk_pair (dk_str sk_late) (dk_int _))
    have hle' : M' ≤ W := hle
    refine rn_seq (env' := ltE fs r (some (.p (.int l))) (some (.p (.int m))) (some (.p (.int M'))) (some (.p (.int B))) none none none) (S' := [C, q2]) (if_nx (S' := [C, q2]) (by simp -implicitDefEqProofs [hB4', hBr]) rfl) ?_
    refine rn_seq (env' := ltE fs r (some (.p (.int l))) (some (.p (.int m))) (some (.p (.int M'))) (some (.p (.int B))) (some (.p (cvD B r))) none none) (S' := [C, q2]) (by simp -implicitDefEqProofs [tupT, allP]) ?_
    refine rn_seq (env' := ltE fs r (some (.p (.int l))) (some (.p (.int m))) (some (.p (.int M'))) (some (.p (.int B))) (some (.p (cvD B r))) (some (.p (.tuple [.str "late", .int W, z]))) none) (S' := [C, q2]) (by simp -implicitDefEqProofs [tupT, allP, a6]) ?_
    refine rn_seq (env' := ltE fs r (some (.p (.int l))) (some (.p (.int m))) (some (.p (.int M'))) (some (.p (.int B))) (some (.p (cvD B r))) (some (.p (.tuple [.str "late", .int W, z]))) none) (S' := [C, q2]) (if_nx (S' := [C, q2]) (by simp -implicitDefEqProofs [tupT, allP, sliceF, noO, someO, slT, cut, dv, hW, eq, hle']) rfl) ?_
    refine rn_seq (env' := ltE fs r (some (.p (.int l))) (some (.p (.int m))) (some (.p (.int M'))) (some (.p (.int B))) (some (.p (cvD B r))) (some (.p (.tuple [.str "late", .int W, z]))) none) (S' := [C, q2]) (if_nx (S' := [C, q2]) (by simp -implicitDefEqProofs [tupT, allP, a7]) rfl) ?_
    refine rn_seq (env' := ltE fs r (some (.p (.int l))) (some (.p (.int m))) (some (.p (.int (B + r * (l + 1))))) (some (.p (.int B))) (some (.p (cvD B r))) (some (.p (.tuple [.str "late", .int W, z]))) none) (S' := [C, q2]) (by simp -implicitDefEqProofs [cm]) ?_
    refine rn_seq (env' := ltE fs r (some (.p (.int l))) (some (.p (.int m))) (some (.p (.int (B + r * (l + 1))))) (some (.p (.int B))) (some (.p (cvD B r))) (some (.p (.tuple [.str "late", .int W, z]))) none) (S' := [C, q2]) (if_nx (S' := [C, q2]) (by simp -implicitDefEqProofs [tupT, allP, a8, a5, hHl]) rfl) ?_
    have p6 : ∀ S, powA (.p (.int 10)) (.p (.int 6)) S = some (.p (.int 1000000), S) := fun S => e_pow (.inl ⟨by decide, by decide, by decide⟩)
    refine rn_seq (env' := ltE fs r (some (.p (.int l))) (some (.p (.int m))) (some (.p (.int (B + r * (l + 1))))) (some (.p (.int B))) (some (.p (cvD B r))) (some (.p (.tuple [.str "late", .int W, z]))) (some (.p (.int t)))) (S' := [C, q3]) (by simp -implicitDefEqProofs [p6, e3]) ?_
    refine rn_seq (env' := ltE fs r (some (.p (.int l))) (some (.p (.int m))) (some (.p (.int (B + r * (l + 1))))) (some (.p (.int B))) (some (.p (cvD B r))) (some (.p (.tuple [.str "late", .int W, z]))) (some (.p (.int t)))) (S' := [C, q3]) (if_nx (S' := [C, q3]) (by
      have c0 : ∀ x, CMul x 0 := fun x => cmul_r (by omega) (by omega)
      have c1 : ∀ x, CMul x 1 := fun x => cmul_r (by omega) (by omega)
      by_cases ht : 0 < t
      · have ea : letAt B r t = B + r * t := if_pos ht
        rw [ea] at a9
        simp -implicitDefEqProofs [a9, cm, ht, c1]
      · have ea : letAt B r t = 0 := if_neg ht
        have ht' : t ≤ 0 := by omega
        rw [ea] at a9
        simp -implicitDefEqProofs [a9, cm, ht, c0]) rfl) ?_
    exact rn_ret (v := .p (.bool true)) (S' := [C, q3]) (by simp -implicitDefEqProofs [tupT, allP, a10, cm, sv1]) ⟨rfl, .inr rfl⟩
  obtain ⟨o, e, s, h1, rfl, rfl | rfl⟩ := key
  · exact ⟨q2, hq2.mono (by omega), m_ret h1 (by simp -implicitDefEqProofs)⟩
  · exact ⟨q3, hq3.mono (by omega), m_ret h1 (by simp -implicitDefEqProofs)⟩
end G50
set_option maxHeartbeats 2000000
/-! R50o: parts of _law_is_burst_right. -/
namespace G50
open PySem PySem.Spec PyProof.Rows L2 Pv
abbrev brE (fs : List Int) (r : Int) (x3 x4 x5 x6 x7 x8 x9 x10 x11 : Option T) : Pv.Env := [some (.loc 1), some (.p (tI fs)), some (.p (.int r)), x3, x4, x5, x6, x7, x8, x9, x10, x11, none, none, none, none]
theorem eqv_31 (a b c d : D) : PyData.eqv (.tuple [a, b, c]) (.tuple [d]) = false := by simp -implicitDefEqProofs [PyData.eqv, PyData.eqvAll]
/-- some: the block of fits -/
theorem br_some (C p : O) (fs : List Int) (r B v : Int) (hD : Dr fs) (hr : 0 ≤ r ∧ r ≤ 100) (hB : IsB fs r B) (hv : 0 ≤ v) (n : Nat) : Rn (ifS (asT (binF leI (varF 4) (conF (.int 400)))) (seqS (setS 5 (callF 2 m_fits (consF (tupF (consF (tupF (consF (varF 4) (consF (varF 2) nilF))) nilF)) (consF (varF 1) nilF)))) (seqS (ifS (orT (asT (binF (eqT true) (binF (eqT false) (varF 5) (tupF (consF (conF (.str "fits")) nilF))) (binF geI (varF 4) (varF 3)))) (asT (binF (isB true) (callF 3 m_shows_fits (consF (tupF (consF (tupF (consF (varF 4) (consF (varF 2) nilF))) nilF)) (consF (varF 1) (consF (varF 5) nilF)))) (conF (.bool true))))) (retS (conF (.bool false))) nextS) (seqS (ifS (andT (asT (binF geI (varF 4) (varF 3))) (asT (binF (eqT true) (callF 2 m_shaped (consF (tupF (consF (tupF (consF (varF 4) (consF (varF 2) nilF))) nilF)) (consF (varF 1) nilF))) (varF 1)))) (retS (conF (.bool false))) nextS) (ifS (notT (asT (callF 2 m__law_is_bool (consF (callF 3 m_shows_fits (consF (tupF (consF (tupF (consF (varF 4) (consF (varF 2) nilF))) nilF)) (consF (varF 1) (consF (tupF (consF (conF (.str "fits")) nilF)) nilF)))) (consF (binF geI (varF 4) (varF 3)) nilF))))) (retS (conF (.bool false))) nextS)))) nextS n
    (brE fs r (some (.p (.int B))) (some (.p (.int v))) none none none none none none none) [C, p]) fun o e s => o = .nx ∧ s = [C, p] ∧ ∃ o5 : Option D, e = brE fs r (some (.p (.int B))) (some (.p (.int v))) (o5.map T.p) none none none none none none := by
  have hF := hD.tr
  by_cases h4 : v ≤ 400
  · obtain ⟨d, hd, a1⟩ := r_fits [C, p] fs v r B hF hB ⟨hv, h4⟩ hr
    have a2 := r_shows1 [C, p] fs v r B hF hB ⟨hv, h4⟩ hr
    have a3 := fun x y => r_isbool [C, p] x y
    refine rn_if1 (S' := [C, p]) (by simp -implicitDefEqProofs [h4]) ?_
    refine rn_seq (env' := brE fs r (some (.p (.int B))) (some (.p (.int v))) (some (.p d)) none none none none none none) (S' := [C, p]) (by simp -implicitDefEqProofs [tupT, allP, a1]) ?_
    have eq : ∀ S, Pv.eqT false (.p (.tuple [.str "fits"])) (.p (.tuple [.str "fits"])) S = some (.p (.bool true), S) := fun S => eq_same rfl rfl (dk_tup fun x hx => by
      have : x = .str "fits" := by simpa using hx
      subst this; exact dk_str sk_fits)
    rcases hd with ⟨hBv, rfl⟩ | ⟨hBv, a, m, rfl, hm1, hm2, hm3⟩
    · rw [decide_eq_true hBv] at a2
      obtain ⟨f1, f2, f3⟩ := fit_ok hB hBv
      have l := r_let C p v r fs fs.length (by have := hD.len; omega) f1 (.inl f2)
      rw [if_neg f2, f3] at l
      have a4 := r_shaped C p v r fs ⟨hv, h4⟩ hr hF _ l
      have eq2 : ∀ S, Pv.eqT true (.p (tI fs)) (.p (tI fs)) S = some (.p (.bool false), S) := fun S => eq_same rfl rfl (dk_ints fs)
      refine rn_seq (env' := brE fs r (some (.p (.int B))) (some (.p (.int v))) (some (.p (.tuple [.str "fits"]))) none none none none none none) (S' := [C, p]) (if_nx (S' := [C, p]) (by simp -implicitDefEqProofs [tupT, allP, eq, a2, hBv]) rfl) ?_
      refine rn_seq (env' := brE fs r (some (.p (.int B))) (some (.p (.int v))) (some (.p (.tuple [.str "fits"]))) none none none none none none) (S' := [C, p]) (if_nx (S' := [C, p]) (by simp -implicitDefEqProofs [tupT, allP, a4, hBv, eq2]) rfl) ?_
      exact rn_nx (env' := brE fs r (some (.p (.int B))) (some (.p (.int v))) (some (.p (.tuple [.str "fits"]))) none none none none none none) (S' := [C, p]) (if_nx (S' := [C, p]) (by simp -implicitDefEqProofs [tupT, allP, a2, hBv, a3]) rfl) ⟨rfl, rfl, some (.tuple [.str "fits"]), rfl⟩
    · rw [decide_eq_false (by omega)] at a2
      have a5 := r_shows3 [C, p] fs v r hF ⟨hv, h4⟩ hr a m hm1 hm2 hm3
      have hnot : ¬ B ≤ v := by omega
      have eq3 : ∀ S, Pv.eqT false (.p (.tuple [.str "more", .int (a : Int), .int (m : Int)])) (.p (.tuple [.str "fits"])) S = some (.p (.bool false), S) := fun S => by
        rw [e_eq rfl rfl (deep_of (dk_tup fun x hx => by
          simp -implicitDefEqProofs only [List.mem_cons, List.not_mem_nil, or_false] at hx
          rcases hx with rfl | rfl | rfl
          · exact dk_str sk_more
          · exact dk_int _
          · exact dk_int _)) (deep_of (dk_tup fun x hx => by
          have : x = .str "fits" := by simpa using hx
          subst this; exact dk_str sk_fits)), eqv_31]
        rfl
      refine rn_seq (env' := brE fs r (some (.p (.int B))) (some (.p (.int v))) (some (.p (.tuple [.str "more", .int (a : Int), .int (m : Int)]))) none none none none none none) (S' := [C, p]) (if_nx (S' := [C, p]) (by simp -implicitDefEqProofs [tupT, allP, eq3, a5, hBv]) rfl) ?_
      refine rn_seq (env' := brE fs r (some (.p (.int B))) (some (.p (.int v))) (some (.p (.tuple [.str "more", .int (a : Int), .int (m : Int)]))) none none none none none none) (S' := [C, p]) (if_nx (S' := [C, p]) (by simp -implicitDefEqProofs [hBv]) rfl) ?_
      exact rn_nx (env' := brE fs r (some (.p (.int B))) (some (.p (.int v))) (some (.p (.tuple [.str "more", .int (a : Int), .int (m : Int)]))) none none none none none none) (S' := [C, p]) (if_nx (S' := [C, p]) (by simp -implicitDefEqProofs [tupT, allP, a2, hBv, a3]) rfl) ⟨rfl, rfl, some (.tuple [.str "more", .int (a : Int), .int (m : Int)]), rfl⟩
  · have h4' : 400 < v := by omega
    exact rn_nx (env' := brE fs r (some (.p (.int B))) (some (.p (.int v))) none none none none none none none) (S' := [C, p]) (if_nx (S' := [C, p]) (by simp -implicitDefEqProofs [h4']) rfl) ⟨rfl, rfl, none, rfl⟩
/-- due -/
theorem br_due (C p : O) (fs : List Int) (r : Int) (hD : Dr fs) (hr : 0 ≤ r ∧ r ≤ 100) (x3 x4 : Option T) (o5 : Option D) (n : Nat) : ∃ M, Mx (HeldP fs r 0) M ∧ setS 6 (argF (mmT maxI) (consF (binF addT (lstF (consF (conF (.int 0)) nilF)) (lcF (lstI (callF 1 m__law_windows (consF (varF 1) nilF))) (tupG 2 (consG (nameG 12) (consG (nameG 13) nilG))) yesT (binF subI (varF 12) (binF mulI (varF 2) (binF subI (varF 13) (conF (.int 1))))) [12, 13])) nilF)) n
    (brE fs r x3 x4 (o5.map T.p) none none none none none none) [C, p] = some (.nx, brE fs r x3 x4 (o5.map T.p) (some (.p (.int M))) none none none none none, [C, p]) := by
  have hl := hD.len
  have a1 := fun S => r_wins S fs (by omega)
  have cm : ∀ x, CMul r x := fun x => cmul_l (by omega) (by omega)
  have hsm := wins_small (fs := fs) (i := fs.length) (by omega) (Nat.le_refl _)
  have hM := (mx_max (ns := 0 :: (wins fs fs.length).map fun p => p.1 - r * (p.2 - 1)) (by simp -implicitDefEqProofs)).to (fun x => wins_P)
  refine ⟨_, hM, ?_⟩
  have hc := lcF_all (itf := lstI (callF 1 m__law_windows (consF (varF 1) nilF))) (gf := tupG 2 (consG (nameG 12) (consG (nameG 13) nilG))) (fe := binF subI (varF 12) (binF mulI (varF 2) (binF subI (varF 13) (conF (.int 1))))) (vs := [12, 13]) (env := brE fs r x3 x4 (o5.map T.p) none none none none none none) (S := [C, p, .lst [.int 0]]) (S' := [C, p, .lst [.int 0], .lst ((wins fs fs.length).map pairI)]) (gd := [(3, .lst ((wins fs fs.length).map pairI))]) pairI (fun p => .int (p.1 - r * (p.2 - 1))) (wins fs fs.length) (by simp -implicitDefEqProofs [a1]) (fun z hz => by
      have : z = (3, O.lst ((wins fs fs.length).map pairI)) := by simpa using hz
      subst this; rfl) (by omega) (fun p hp acc => ⟨[some (.loc 1), some (.p (tI fs)), some (.p (.int r)), x3, x4, o5.map T.p, none, none, none, none, none, none, some (.p (.int p.1)), some (.p (.int p.2)), none, none], [], by simp -implicitDefEqProofs [wipeE, pairI], by simp -implicitDefEqProofs [cm]⟩)
  have em : (wins fs fs.length).map (fun p => PyData.int (p.1 - r * (p.2 - 1))) = ((wins fs fs.length).map fun p => p.1 - r * (p.2 - 1)).map PyData.int := by rw [List.map_map]; rfl
  rw [em] at hc
  have hlen : ((wins fs fs.length).map fun p => p.1 - r * (p.2 - 1)).length ≤ 10000 := by rw [List.length_map]; exact hsm
  generalize ((wins fs fs.length).map fun p => p.1 - r * (p.2 - 1)) = L at hc hlen
  generalize ((wins fs fs.length).map pairI) = W at hc
  have q1 := e_addL (S := [C, p, .lst [.int 0], .lst W, .lst (L.map PyData.int)]) (i := 2) (j := 4) (xs := [.int 0]) (ys := L.map PyData.int) rfl rfl (by rw [sizeLine_eq]; simp; omega)
  have q2 := e_maxL (S := [C, p, .lst [.int 0], .lst W, .lst (L.map PyData.int), .lst ((0 :: L).map PyData.int)]) (i := 5) (ns := 0 :: L) rfl (by simp -implicitDefEqProofs)
  have l0 : lstF (consF (conF (.int 0)) nilF) (brE fs r x3 x4 (o5.map T.p) none none none none none none) [C, p] = some (.loc 2, [C, p, .lst [.int 0]]) := by simp -implicitDefEqProofs [allP]
  simp -implicitDefEqProofs only [List.length_cons, List.length_nil, List.cons_append, List.nil_append] at hc q1
  rw [s_set, e_arg, e_cons, e_bin, l0, Option.bind_some, e_bin1, hc, Option.bind_some, e_bin2, q1]
  simp -implicitDefEqProofs only [Option.bind_some, e_cons1, e_nil, Option.map_some, e_cons2, e_argK]
  have q3 : mmT maxI [T.loc (0 + 1 + 1 + 1 + 1 + 1)] [C, p, O.lst [PyData.int 0], O.lst W, O.lst (List.map PyData.int L), O.lst (PyData.int 0 :: List.map PyData.int L)] = some (T.p (PyData.int (maxI (0 :: L))), [C, p, O.lst [PyData.int 0], O.lst W, O.lst (List.map PyData.int L), O.lst (PyData.int 0 :: List.map PyData.int L)]) := q2
  rw [q3, Option.bind_some, s_set1, gc_p, Option.map_some, s_set2]
  rfl
end G50
set_option maxHeartbeats 2000000
/-! R50p: parts of _law_is_burst_right, whole. -/
namespace G50
open PySem PySem.Spec PyProof.Rows L2 Pv
theorem isB_sum {fs : List Int} {r B : Int} (hp : ∀ f ∈ fs, 0 ≤ f) (hr : 0 ≤ r) (h : IsB fs r B) : B ≤ fs.sum := by
  obtain ⟨a, m, hl, e⟩ := h.win_at
  have h1 := ws_pf fs a m
  have h2 := pf_mono hp (Nat.zero_le a)
  have h3 := pf_mono hp hl
  have h4 : 0 ≤ r * (m : Int) := Int.mul_nonneg hr (Int.natCast_nonneg m)
  rw [pf_0] at h2
  rw [pf_len] at h3
  omega
theorem rep_zero (k : Int) : repD k [PyData.int 0] = (List.replicate k.toNat (0 : Int)).map PyData.int := by
  have h := repD_ints k [0]
  rw [List.map_singleton] at h
  rw [h]
  congr 1
  generalize k.toNat = n
  induction n with
  | zero => rfl
  | succ n ih => rw [List.replicate_succ, List.flatten_cons, ih, List.replicate_succ]; rfl
/-- wide -/
theorem br_wide (C p : O) (fs : List Int) (r B : Int) (hB : 0 ≤ B ∧ B ≤ 1560) (x4 x6 x7 : Option T) (o5 : Option D) (n : Nat) : setS 8 (binF mulPT (tupF (consF (conF (.int 0)) nilF)) (ifF (asT (binF gtI (varF 2) (conF (.int 0)))) (binF addT (varF 3) (conF (.int 1))) (conF (.int 0)))) n
    (brE fs r (some (.p (.int B))) x4 (o5.map T.p) x6 x7 none none none none) [C, p] = some (.nx, brE fs r (some (.p (.int B))) x4 (o5.map T.p) x6 x7 (some (.p (tI (List.replicate (if 0 < r then B + 1 else 0).toNat 0)))) none none none, [C, p]) := by
  unfold tI
  rw [← rep_zero]
  by_cases hr : 0 < r
  · rw [if_pos hr]
    have hk : -(2 ^ 63) ≤ B + 1 ∧ B + 1 < 2 ^ 40 ∧ [PyData.int 0].length * (B + 1).toNat ≤ 100000 := by
      refine ⟨by omega, by omega, ?_⟩
      simp; omega
    have q := fun S => e_mulPT (S := S) hk
    generalize repD (B + 1) [PyData.int 0] = L at *
    simp -implicitDefEqProofs [tupT, allP, hr, q]
  · rw [if_neg hr]
    have hr' : r ≤ 0 := by omega
    have hk : -(2 ^ 63) ≤ (0 : Int) ∧ (0 : Int) < 2 ^ 40 ∧ [PyData.int 0].length * (0 : Int).toNat ≤ 100000 := by
      refine ⟨by omega, by omega, by simp -implicitDefEqProofs⟩
    have q := fun S => e_mulPT (S := S) hk
    generalize repD 0 [PyData.int 0] = L at *
    simp -implicitDefEqProofs [tupT, allP, hr', q]
/-- one behind the other -/
theorem br_cat (C p : O) (fs gs : List Int) (r B : Int) (hD : Dr fs) (hG : Dr gs) (hr : 0 ≤ r ∧ r ≤ 100) (hB : IsB fs r B) (x4 x6 : Option T) (o5 : Option D) (n : Nat) : ifS (andT (asT (binF gtI (varF 2) (conF (.int 0)))) (asT (binF leI (binF addT (binF addT (argF lenT (consF (varF 1) nilF)) (argF lenT (consF (varF 8) nilF))) (argF lenT (consF (varF 7) nilF))) (conF (.int 500))))) (ifS (asT (binF (eqT true) (callF 2 m_least_burst (consF (binF addT (binF addT (varF 1) (varF 8)) (varF 7)) (consF (varF 2) nilF))) (argF max2T (consF (varF 3) (consF (callF 2 m__law_burst (consF (varF 7) (consF (varF 2) nilF))) nilF))))) (retS (conF (.bool false))) nextS) nextS n
    (brE fs r (some (.p (.int B))) x4 (o5.map T.p) x6 (some (.p (tI gs))) (some (.p (tI (List.replicate (if 0 < r then B + 1 else 0).toNat 0)))) none none none) [C, p]
    = some (.nx, brE fs r (some (.p (.int B))) x4 (o5.map T.p) x6 (some (.p (tI gs))) (some (.p (tI (List.replicate (if 0 < r then B + 1 else 0).toNat 0)))) none none none, [C, p]) := by
  by_cases h0 : 0 < r
  · rw [if_pos h0]
    obtain ⟨k, hk⟩ : ∃ k, (B + 1).toNat = k := ⟨_, rfl⟩
    have hBn := hB.nonneg
    have hBk : B < k := by omega
    have hk1 : 1 ≤ k := by omega
    rw [hk]
    by_cases h5 : fs.length + k + gs.length ≤ 500
    · have h5' : (fs.length : Int) + (k : Int) + (gs.length : Int) ≤ 500 := by omega
      obtain ⟨B2, hB2, a2⟩ := r_burst [C, p] gs r (by have := hG.len; omega) hr
      have hT : Tr (fs ++ List.replicate k 0 ++ gs) := ⟨by simp -implicitDefEqProofs; omega, fun x hx => by
        rcases List.mem_append.mp hx with hx | hx
        · rcases List.mem_append.mp hx with hx | hx
          · have := hD.rg x hx; omega
          · have := (List.mem_replicate.mp hx).2
            omega
        · have := hG.rg x hx; omega⟩
      obtain ⟨B3, hB3, a3⟩ := r_least [C, p] _ r hT hr
      have hB4 := hB3.uniq (isB_cat hB hB2 (by omega) hBk)
      have em : tI (fs ++ List.replicate k 0 ++ gs) = .tuple (fs.map PyData.int ++ (List.replicate k (0 : Int)).map PyData.int ++ gs.map PyData.int) := by unfold tI; rw [List.map_append, List.map_append]
      rw [em] at a3
      have lz : ((List.replicate k (0 : Int)).map PyData.int).length = k := by simp -implicitDefEqProofs
      have hz1 : (fs.map PyData.int).length + ((List.replicate k (0 : Int)).map PyData.int).length ≤ sizeLine := by rw [sizeLine_eq, lz]; simp; omega
      have hz2 : (fs.map PyData.int ++ (List.replicate k (0 : Int)).map PyData.int).length + (gs.map PyData.int).length ≤ sizeLine := by rw [sizeLine_eq, List.length_append, lz]; simp; omega
      have hne : (List.replicate k (0 : Int)).map PyData.int ≠ [] := fun e => by rw [e] at lz; simp at lz; omega
      have q1 := fun S => e_addP (S := S) hz1 (.inr hne)
      have q2 := fun S => e_addP (S := S) hz2 (.inl (fun e => hne (List.append_eq_nil_iff.mp e).2))
      have tst : andT (asT (binF gtI (varF 2) (conF (.int 0)))) (asT (binF leI (binF addT (binF addT (argF lenT (consF (varF 1) nilF)) (argF lenT (consF (varF 8) nilF))) (argF lenT (consF (varF 7) nilF))) (conF (.int 500)))) (brE fs r (some (.p (.int B))) x4 (o5.map T.p) x6 (some (.p (tI gs))) (some (.p (tI (List.replicate k 0)))) none none none) [C, p] = some (true, [C, p]) := by simp -implicitDefEqProofs [h0, h5']
      rw [s_if, tst, Option.bind_some, s_if1 rfl]
      refine if_nx (S' := [C, p]) ?_ rfl
      have mxe : (if B2 > B then B2 else B) = B3 := hB4.symm
      show asT (binF (eqT true) (callF 2 m_least_burst (consF (binF addT (binF addT (varF 1) (varF 8)) (varF 7)) (consF (varF 2) nilF))) (argF max2T (consF (varF 3) (consF (callF 2 m__law_burst (consF (varF 7) (consF (varF 2) nilF))) nilF)))) _ [C, p] = _
      have e2 : max2T [.p (.int B), .p (.int B2)] [C, p] = some (.p (.int B3), [C, p]) := by rw [e_max2, mxe]
      have q1' := q1 [C, p]
      have q2' := q2 [C, p]
      simp -implicitDefEqProofs [-e_max2, -e_addP, -List.map_replicate, -List.append_assoc, -List.map_append, q1', q2', a2, a3, e2]
    · have h5' : 500 < (fs.length : Int) + (k : Int) + (gs.length : Int) := by omega
      exact if_nx (S' := [C, p]) (by simp -implicitDefEqProofs [h0, h5']) rfl
  · have h0' : r ≤ 0 := by omega
    generalize List.replicate (if 0 < r then B + 1 else 0).toNat (0 : Int) = Z
    exact if_nx (S' := [C, p]) (by simp -implicitDefEqProofs [h0']) rfl
theorem zip_both : ∀ fs gs : List Int, zipD (fs.map PyData.int) (gs.map PyData.int) = (fs.zip gs).map pairI ∧ (fs.zip gs).map (fun p => p.1 + p.2) = both fs gs
  | [], _ => by simp -implicitDefEqProofs [zipD, both]
  | _ :: _, [] => by simp -implicitDefEqProofs [zipD, both]
  | x :: fs, y :: gs => by
    obtain ⟨h1, h2⟩ := zip_both fs gs
    unfold zipD both at *
    simp -implicitDefEqProofs only [List.map_cons, List.zip_cons_cons, List.zipWith_cons_cons, h1, h2]
    exact ⟨rfl, trivial⟩
theorem both_rg {xs ys : List Int} (hx : ∀ x ∈ xs, 0 ≤ x ∧ x ≤ 39) (hy : ∀ x ∈ ys, 0 ≤ x ∧ x ≤ 39) : ∀ x ∈ both xs ys, 0 ≤ x ∧ x ≤ 78 := fun z hz => by
  rw [← (zip_both xs ys).2] at hz
  obtain ⟨p, hp, rfl⟩ := List.mem_map.mp hz
  obtain ⟨h1, h2⟩ := List.of_mem_zip hp
  have := hx _ h1
  have := hy _ h2
  omega
/-- side by side -/
theorem br_both (C p : O) (fs gs : List Int) (r : Int) (hD : Dr fs) (hG : Dr gs) (x3 x4 x6 x8 : Option T) (o5 : Option D) (n : Nat) : setS 9 (argF tupleT (consF (lcF (zipI (consF (varF 1) (consF (varF 7) nilF))) (tupG 2 (consG (nameG 14) (consG (nameG 15) nilG))) yesT (binF addT (varF 14) (varF 15)) [14, 15]) nilF)) n
    (brE fs r x3 x4 (o5.map T.p) x6 (some (.p (tI gs))) x8 none none none) [C, p] = some (.nx, brE fs r x3 x4 (o5.map T.p) x6 (some (.p (tI gs))) x8 (some (.p (tI (both fs gs)))) none none, [C, p]) := by
  obtain ⟨z1, z2⟩ := zip_both fs gs
  have hl := hD.len
  have hzl : (fs.zip gs).length ≤ 40 := by rw [List.length_zip]; omega
  have hc := lcF_all (itf := zipI (consF (varF 1) (consF (varF 7) nilF))) (gf := tupG 2 (consG (nameG 14) (consG (nameG 15) nilG))) (fe := binF addT (varF 14) (varF 15)) (vs := [14, 15]) (env := brE fs r x3 x4 (o5.map T.p) x6 (some (.p (tI gs))) x8 none none none) (S := [C, p]) (S' := [C, p]) (gd := []) pairI (fun p => .int (p.1 + p.2)) (fs.zip gs) (by simp -implicitDefEqProofs [z1]) gd_nil (by omega) (fun p hp acc => ⟨[some (.loc 1), some (.p (tI fs)), some (.p (.int r)), x3, x4, o5.map T.p, x6, some (.p (tI gs)), x8, none, none, none, none, none, some (.p (.int p.1)), some (.p (.int p.2))], [], by simp -implicitDefEqProofs [wipeE, pairI], by simp -implicitDefEqProofs⟩)
  have em : (fs.zip gs).map (fun p => PyData.int (p.1 + p.2)) = (both fs gs).map PyData.int := by rw [← z2, List.map_map]; rfl
  rw [em] at hc
  have q := e_tuple (S := [C, p, .lst ((both fs gs).map PyData.int)]) (i := 2) (ds := (both fs gs).map PyData.int) rfl
  simp -implicitDefEqProofs only [List.length_cons, List.length_nil, List.cons_append, List.nil_append] at hc
  rw [s_set, e_arg, e_cons, hc]
  simp -implicitDefEqProofs only [Option.bind_some, e_cons1, e_nil, Option.map_some, e_cons2, e_argK]
  have q3 : tupleT [T.loc (0 + 1 + 1)] [C, p, O.lst (List.map PyData.int (both fs gs))] = some (T.p (tI (both fs gs)), [C, p, O.lst (List.map PyData.int (both fs gs))]) := q
  rw [q3, Option.bind_some, s_set1, gc_p, Option.map_some, s_set2]
  rfl
theorem Tr.take {fs : List Int} (h : Tr fs) (m : Nat) : Tr (fs.take m) := ⟨by have := h.len; rw [List.length_take]; omega, fun f hf => h.rg f (List.mem_of_mem_take hf)⟩
end G50
set_option maxHeartbeats 2000000
/-! R50q: _law_is_burst_right, whole. -/
namespace G50
open PySem PySem.Spec PyProof.Rows L2 Pv
theorem max_y (B : Int) : ∃ y : Int, 0 ≤ y ∧ ∀ S, max2T [.p (.int 0), .p (.int (B - 1))] S = some (.p (.int y), S) := ⟨if B - 1 > 0 then B - 1 else 0, by split <;> omega, fun S => e_max2⟩
theorem min_y (a b : Nat) : ∃ m : Nat, m = min a b ∧ ∀ S, min2T [.p (.int (a : Int)), .p (.int (b : Int))] S = some (.p (.int (m : Int)), S) := ⟨min a b, rfl, fun S => by
  rw [e_min2]
  have : (if (b : Int) < (a : Int) then (b : Int) else (a : Int)) = ((min a b : Nat) : Int) := by split <;> omega
  rw [this]⟩
theorem cut_take (fs : List Int) (m : Nat) (h : m ≤ fs.length) : cutL (fs.map PyData.int) none (some (m : Int)) = (fs.take m).map PyData.int := by
  rw [cut_to _ _ (by rw [List.length_map]; exact h), List.map_take]
theorem r_burstright {k : Int} {C p : O} (h : PotOk k p) (hk : k ≤ 700000) (fs : List Int) (hD : Dr fs) (r : Int) (hr : 0 ≤ r ∧ r ≤ 100) : ∃ p', PotOk (k + 102) p' ∧ m__law_is_burst_right [.loc 1, .p (tI fs), .p (.int r)] [C, p] = some (.p (.bool true), [C, p']) := by
  have hp := hD.nn
  have hF := hD.tr
  have hlen := hD.len
  obtain ⟨B, hB, a1⟩ := r_burst [C, p] fs r (by omega) hr
  have hBn := hB.nonneg
  have hBs : B ≤ 1560 := by have := isB_sum hp hr.1 hB; have := hD.sum; omega
  obtain ⟨B', hB', a2⟩ := r_least [C, p] fs r hF hr
  have : B' = B := hB'.uniq hB
  subst this
  have hTr : Tr fs.reverse := ⟨by have := hF.len; rw [List.length_reverse]; exact this, fun f hf => hF.rg f (List.mem_reverse.mp hf)⟩
  obtain ⟨B2, hB2, a3⟩ := r_least [C, p] fs.reverse r hTr hr
  have : B2 = B' := hB2.uniq (isB_rev hB)
  subst this
  have erev : tI fs.reverse = .tuple (fs.map PyData.int).reverse := by unfold tI; rw [List.map_reverse]
  rw [erev] at a3
  obtain ⟨y, hy0, hy⟩ := max_y B2
  obtain ⟨q1, t, e1, hq1, ht1, ht2⟩ := p_take (C := C) (R := []) (u := 401) h (by omega) (by omega) (by omega)
  obtain ⟨q2, v, hv, hq2, e2⟩ := p_of (C := C) (R := []) (xs := [B2, y, B2 + 1, t]) hq1 (by omega) (by simp -implicitDefEqProofs) (by simp -implicitDefEqProofs)
  have hv0 : 0 ≤ v := by
    simp -implicitDefEqProofs only [List.mem_cons, List.not_mem_nil, or_false] at hv
    omega
  obtain ⟨q3, gs, hq3, hG, e3⟩ := r_lawtraffic (C := C) hq2 (by omega)
  have hGl := hG.len
  obtain ⟨M, hM, b0⟩ := br_due C q2 fs r hD hr (some (.p (.int B2))) (some (.p (.int v))) none 2
  clear b0
  obtain ⟨M', hM', a4⟩ := r_held [C, q2] fs r 0 hF hr (by omega)
  have : M' = M := hM'.uniq hM fun _ => Iff.rfl
  subst this
  have hdue := held_due hp hr.1 hB hM
  obtain ⟨m, hm, hmn⟩ := min_y fs.length gs.length
  obtain ⟨B3, hB3, a5⟩ := r_least [C, q3] (fs.take m) r (hF.take m) hr
  obtain ⟨B4, hB4, a6⟩ := r_least [C, q3] (gs.take m) r (hG.tr.take m) hr
  have hbl := both_len fs gs
  have hbr := both_rg hD.rg hG.rg
  have hTb : Tr (both fs gs) := ⟨by omega, fun f hf => by have := hbr f hf; omega⟩
  obtain ⟨r2, hr2e⟩ : ∃ r2 : Int, (if 2 * r < 100 then 2 * r else 100) = r2 := ⟨_, rfl⟩
  have hr2 : 0 ≤ r2 ∧ r2 ≤ 100 := by rw [← hr2e]; split <;> omega
  have hmn2 : ∀ S, min2T [.p (.int 100), .p (.int (2 * r))] S = some (.p (.int r2), S) := fun S => by rw [e_min2, hr2e]
  obtain ⟨B5, hB5, a7⟩ := r_least [C, q3] (both fs gs) r2 hTb hr2
  have hfar : B5 ≤ B3 + B4 := both_take hm hB3 hB4 hD.rg hG.rg (by rw [hr2e]; exact hB5)
  have c2 : CMul 2 r := cmul_l (by omega) (by omega)
  simp -implicitDefEqProofs only [List.nil_append, List.length_nil, Nat.zero_add, List.map_cons, List.map_nil] at e2
  have key : Rn (b__law_is_burst_right 2 (brE fs r none none none none none none none none none) [C, p]) fun o e s => o = .rt (.p (.bool true)) ∧ s = [C, q3] := by
    unfold b__law_is_burst_right
    refine rn_seq (env' := brE fs r (some (.p (.int B2))) none none none none none none none none) (S' := [C, p]) (by simp -implicitDefEqProofs [a1]) ?_
    refine rn_seq (env' := brE fs r (some (.p (.int B2))) none none none none none none none none) (S' := [C, p]) (if_nx (S' := [C, p]) (by simp -implicitDefEqProofs [-List.map_reverse, a2, a3]) rfl) ?_
    refine rn_seq (env' := brE fs r (some (.p (.int B2))) (some (.p (.int v))) none none none none none none none) (S' := [C, q2]) (by simp -implicitDefEqProofs [-e_max2, allP, hy, e1, e2]) ?_
    refine rn_seq2 (rn_mono (br_some C q2 fs r B2 v hD hr hB hv0 2) fun o e s hh => ?_)
    obtain ⟨rfl, rfl, o5, rfl⟩ := hh
    show Rn _ _
    obtain ⟨M1, hM1, b1⟩ := br_due C q2 fs r hD hr (some (.p (.int B2))) (some (.p (.int v))) o5 2
    have : M1 = M' := hM1.uniq hM fun _ => Iff.rfl
    subst this
    refine rn_seq (env' := brE fs r (some (.p (.int B2))) (some (.p (.int v))) (o5.map T.p) (some (.p (.int M1))) none none none none none) (S' := [C, q2]) ?_ ?_
    · exact b1
    refine rn_seq (env' := brE fs r (some (.p (.int B2))) (some (.p (.int v))) (o5.map T.p) (some (.p (.int M1))) none none none none none) (S' := [C, q2]) (if_nx (S' := [C, q2]) (by
      by_cases hd : r ≤ M1
      · have hh := hdue hd
        have hd2 : r ≤ B2 + r := by omega
        simp -implicitDefEqProofs [tupT, allP, a4, hh, hd2]
      · have hd' : M1 < r := by omega
        simp -implicitDefEqProofs [tupT, allP, a4, hd']) rfl) ?_
    refine rn_seq (env' := brE fs r (some (.p (.int B2))) (some (.p (.int v))) (o5.map T.p) (some (.p (.int M1))) (some (.p (tI gs))) none none none none) (S' := [C, q3]) (by simp -implicitDefEqProofs [e3]) ?_
    refine rn_seq (br_wide C q3 fs r B2 ⟨hBn, hBs⟩ _ _ _ o5 2) ?_
    refine rn_seq (br_cat C q3 fs gs r B2 hD hG hr hB _ _ o5 2) ?_
    generalize tI (List.replicate (if 0 < r then B2 + 1 else 0).toNat 0) = Z
    refine rn_seq (br_both C q3 fs gs r hD hG _ _ _ _ o5 2) ?_
    refine rn_seq (env' := brE fs r (some (.p (.int B2))) (some (.p (.int v))) (o5.map T.p) (some (.p (.int M1))) (some (.p (tI gs))) (some (.p Z)) (some (.p (tI (both fs gs)))) (some (.p (.int (m : Int)))) none) (S' := [C, q3]) (by simp -implicitDefEqProofs [-e_min2, hmn]) ?_
    have k1 := cut_take fs m (by omega)
    have k2 := cut_take gs m (by omega)
    refine rn_seq (env' := brE fs r (some (.p (.int B2))) (some (.p (.int v))) (o5.map T.p) (some (.p (.int M1))) (some (.p (tI gs))) (some (.p Z)) (some (.p (tI (both fs gs)))) (some (.p (.int (m : Int)))) (some (.p (.int (B3 + B4))))) (S' := [C, q3]) (by simp -implicitDefEqProofs [-List.map_take, sliceF, noO, someO, slT, k1, k2, a5, a6]) ?_
    have hmx := mx_max (ns := both fs gs ++ [0]) (by simp -implicitDefEqProofs)
    have em : (both fs gs).map PyData.int ++ [PyData.int 0] = (both fs gs ++ [0]).map PyData.int := by rw [List.map_append]; rfl
    have q2 := fun S => e_maxP (S := S) (ns := both fs gs ++ [0]) (by simp -implicitDefEqProofs)
    rw [← em] at q2
    have hMx : maxI (both fs gs ++ [0]) ≤ 1000 := by
      have := hmx.at_
      rcases List.mem_append.mp this with h | h
      · have := hbr _ h; omega
      · have := List.mem_singleton.mp h; omega
    generalize maxI (both fs gs ++ [0]) = MM at *
    have hz : (both fs gs).length + 1 ≤ sizeLine := by rw [sizeLine_eq]; omega
    exact rn_ret (v := .p (.bool true)) (S' := [C, q3]) (by simp -implicitDefEqProofs [-e_min2, hz, q2, hMx, tupT, allP, c2, hmn2, a7, hfar]) ⟨rfl, rfl⟩
  obtain ⟨o, e, s, h1, rfl, rfl⟩ := key
  exact ⟨q3, hq3.mono (by omega), m_ret h1 (by simp -implicitDefEqProofs)⟩
end G50
set_option maxHeartbeats 1000000
/-! R50r: law itself. -/
namespace G50
open PySem PySem.Spec PyProof.Rows L2 Pv
theorem rangeL_at {lo : Int} {k i : Nat} {x : D} (h : (rangeL lo k)[i]? = some x) : x = .int (lo + (i : Int)) ∧ i < k := by
  unfold rangeL at h
  rw [List.getElem?_map] at h
  obtain ⟨j, hj, rfl⟩ := Option.map_eq_some_iff.mp h
  obtain ⟨rfl, hlt⟩ := range_at hj
  exact ⟨rfl, hlt⟩
abbrev laE (ns : List Int) (o1 : Option D) (x2 : Option T) (o3 o4 o5 : Option D) : Pv.Env := [some (.ro (ns.map PyData.int)), o1.map T.p, x2, o3.map T.p, o4.map T.p, o5.map T.p]
noncomputable def lapB : SF := seqS (parS 4 5 (consF (callF 1 m__law_traffic (consF (varF 2) nilF)) (consF (argF intT (consF (callF 2 m__law_take (consF (varF 2) (consF (callF 2 m__law_of (consF (varF 2) (consF (lstF (consF (conF (.int 4)) (consF (conF (.int 12)) (consF (conF (.int 101)) nilF)))) nilF))) nilF))) nilF)) nilF))) (seqS (ifS (orT (notT (asT (callF 3 m__law_is_burst_right (consF (varF 2) (consF (varF 4) (consF (varF 5) nilF)))))) (notT (asT (callF 3 m__law_are_lates_right (consF (varF 2) (consF (varF 4) (consF (varF 5) nilF))))))) (retS (conF (.bool false))) nextS) (ifS (notT (asT (callF 3 m__law_is_shaped_right (consF (varF 2) (consF (varF 4) (consF (varF 5) nilF)))))) (retS (conF (.bool false))) nextS))
theorem lap_ok {k : Int} {C p : O} (h : PotOk k p) (hk : k ≤ 500000) (ns : List Int) (o1 o3 o4 o5 : Option D) (n : Nat) : ∃ (p' : O) (o4' o5' : Option D), PotOk (k + 600) p' ∧ lapB n (laE ns o1 (some (.loc 1)) o3 o4 o5) [C, p] = some (.nx, laE ns o1 (some (.loc 1)) o3 o4' o5', [C, p']) := by
  obtain ⟨p0, fs, hp0, hD, e0⟩ := r_lawtraffic (C := C) h (by omega)
  obtain ⟨p1, u, hu, hp1, e1⟩ := p_of (C := C) (R := []) (xs := [4, 12, 101]) hp0 (by omega) (by simp -implicitDefEqProofs) (by simp -implicitDefEqProofs)
  have hu' : 1 ≤ u ∧ u ≤ 101 := by
    simp at hu; omega
  obtain ⟨p2, d, e2, hp2, h2, h3⟩ := p_take (C := C) (R := [.lst [.int 4, .int 12, .int 101]]) (u := u) hp1 (by omega) (by omega) (by omega)
  obtain ⟨p3, hp3, e3⟩ := r_burstright (C := C) hp2 (by omega) fs hD d (by omega)
  obtain ⟨p4, hp4, e4⟩ := r_latesright (C := C) hp3 (by omega) fs hD d (by omega)
  obtain ⟨p5, hp5, e5⟩ := r_shapedright (C := C) hp4 (by omega) fs hD d (by omega)
  refine ⟨p5, some (tI fs), some (.int d), hp5.mono (by omega), ?_⟩
  simp -implicitDefEqProofs only [List.nil_append, List.length_nil, Nat.zero_add, List.map_cons, List.map_nil] at e1
  refine seq_go (env' := laE ns o1 (some (.loc 1)) o3 (some (tI fs)) (some (.int d))) (S' := [C, p2]) ?_ (seq_go (env' := laE ns o1 (some (.loc 1)) o3 (some (tI fs)) (some (.int d))) (S' := [C, p4]) ?_ ?_)
  · simp -implicitDefEqProofs [allP, e0, e1, e2, gcTs, gcT, gcOb, parK]
  · exact if_nx (S' := [C, p4]) (by simp -implicitDefEqProofs [e3, e4]) rfl
  · exact if_nx (S' := [C, p5]) (by simp -implicitDefEqProofs [e5]) rfl
noncomputable def placeB : SF := seqS (setS 2 (callF 2 m__law_pot (consF (varF 0) (consF (varF 1) nilF)))) (forS (range1I (consF (conF (.int 2)) nilF)) (nameG 3) lapB)
theorem place_ok (C : O) (ns : List Int) (i : Nat) (hi : i ≤ 10) (o3 o4 o5 : Option D) (n : Nat) : ∃ (p : O) (o3' o4' o5' : Option D), placeB n (laE ns (some (.int (i : Int))) none o3 o4 o5) [C] = some (.nx, laE ns (some (.int (i : Int))) (some (.loc 1)) o3' o4' o5', [C, p]) := by
  obtain ⟨p, e, hp⟩ := r_pot [C] ns i hi
  obtain ⟨env', S', e1, p', o3', o4', o5', rfl, rfl, hp'⟩ := loop_inv (gf := nameG 3) (sb := lapB) (n := gdTop n []) (m := 2) (gd := [])
    (fun j env S => ∃ (p' : O) (o3 o4 o5 : Option D), S = [C, p'] ∧ env = laE ns (some (.int (i : Int))) (some (.loc 1)) o3 o4 o5 ∧ PotOk (600 * (if j < 100 then (j : Int) else 100)) p')
    (fun _ _ _ _ => gd_nil) (rangeL 0 2) 0 (laE ns (some (.int (i : Int))) (some (.loc 1)) o3 o4 o5) [C, p] ⟨p, o3, o4, o5, rfl, rfl, by simpa using hp⟩ (fun j x env S hx ⟨p1, o3, o4, o5, e1, e2, h1⟩ => by
      subst e1 e2
      obtain ⟨rfl, hj⟩ := rangeL_at hx
      obtain ⟨p2, o4', o5', h2, e3⟩ := lap_ok (C := C) h1 (by split <;> omega) ns (some (.int (i : Int))) (some (.int (0 + (j : Int)))) o4 o5 (gdTop n [])
      refine ⟨_, _, _, _, g_name, e3, p2, some (.int (0 + (j : Int))), o4', o5', rfl, ?_, ?_⟩
      · simp -implicitDefEqProofs [forget]
      · refine h2.mono ?_
        rw [if_pos (by omega), if_pos (by omega)]
        omega)
  refine ⟨p', o3', o4', o5', seq_go (env' := laE ns (some (.int (i : Int))) (some (.loc 1)) o3 o4 o5) (S' := [C, p]) ?_ ?_⟩
  · simp at e
    simp -implicitDefEqProofs [e, gcV, gcT, gcOb, putSlot, putLoc]
  · have hr : range1I (consF (conF (.int 2)) nilF) (laE ns (some (.int (i : Int))) (some (.loc 1)) o3 o4 o5) [C, p] = some (rangeL 0 2, [], [C, p]) := i_range1 (c := 2) (by simp -implicitDefEqProofs) (by decide)
    rw [s_for_run hr rfl e1]
    simp -implicitDefEqProofs [forget]
theorem law_ok (ns : List Int) : m_law [.ro (ns.map PyData.int)] [] = some (.p (.bool true), []) := by
  have hc := r_cells [] ns
  have hcl : cellsN ns ≤ 3 := by unfold cellsN; omega
  generalize cellsN ns = c at hc hcl
  have hgd : GdOk [(0, O.lst (rgD 0 (c : Int)))] [O.lst (rgD 0 (c : Int))] := fun p hp => by
    have : p = (0, O.lst (rgD 0 (c : Int))) := by simpa using hp
    subst this; rfl
  obtain ⟨env', S', e1, o1, o3, o4, o5, rfl, rfl⟩ := loop_inv (gf := nameG 1) (sb := placeB) (n := gdTop 0 [(0, O.lst (rgD 0 (c : Int)))]) (m := 1) (gd := [(0, O.lst (rgD 0 (c : Int)))])
    (fun j env S => ∃ (o1 o3 o4 o5 : Option D), S = [O.lst (rgD 0 (c : Int))] ∧ env = laE ns o1 none o3 o4 o5)
    (fun j env S ⟨_, _, _, _, e, _⟩ => by rw [e]; exact hgd) (rgD 0 (c : Int)) 0 (laE ns none none none none none) [O.lst (rgD 0 (c : Int))] ⟨none, none, none, none, rfl, rfl⟩ (fun j x env S hx ⟨o1, o3, o4, o5, e1, e2⟩ => by
      subst e1 e2
      rw [rgD_nat, List.map_map, List.getElem?_map] at hx
      obtain ⟨i, hi, rfl⟩ := Option.map_eq_some_iff.mp hx
      have hi' : i < c := by
        have h1 := List.mem_of_getElem? hi
        exact List.mem_range.mp h1
      obtain ⟨p, o3', o4', o5', e3⟩ := place_ok (O.lst (rgD 0 (c : Int))) ns i (by omega) o3 o4 o5 (gdTop 0 [(0, O.lst (rgD 0 (c : Int)))])
      refine ⟨laE ns (some (.int (i : Int))) none o3 o4 o5, _, _, _, ?_, e3, some (.int (i : Int)), o3', o4', o5', rfl, ?_⟩
      · simp
      · simp -implicitDefEqProofs [forget, keepN (M := 1) (k := 1) (Nat.le_refl _)])
  have hi : lstI (callF 2 m__law_cells (consF (varF 0) (consF (conF (.int 3)) nilF))) (laE ns none none none none none) [] = some (rgD 0 (c : Int), [(0, O.lst (rgD 0 (c : Int)))], [O.lst (rgD 0 (c : Int))]) := by
    simp at hc
    simp -implicitDefEqProofs [hc]
  have b1 : forS (lstI (callF 2 m__law_cells (consF (varF 0) (consF (conF (.int 3)) nilF)))) (nameG 1) placeB 0 (laE ns none none none none none) [] = some (.nx, laE ns o1 none o3 o4 o5, []) := by
    rw [s_for_run hi rfl e1]
    simp -implicitDefEqProofs [forget]
  exact m_ret (show seqS _ _ _ _ _ = _ from seq_go b1 (ret_go e_con)) (by simp -implicitDefEqProofs)
end G50
set_option maxHeartbeats 4000000
/-! W50: the walk of k50: each def does what M50 says. -/
namespace G50
open PySem PySem.Spec PyProof.Rows L2 Pv
def topS (i : Nat) : Stmt := PySem.Challenge.pw_howeveritpasses_k50_whole_bursts_and_lat.main.body.getD i (.Pass ⟨0, 0, 0, 0⟩)
/-- no global hides a built-in -/
structure Bi (mg : Str → Option Value) : Prop where
  abs_ : mg "abs" = none
  all_ : mg "all" = none
  any_ : mg "any" = none
  bool_ : mg "bool" = none
  enumerate_ : mg "enumerate" = none
  int_ : mg "int" = none
  isinstance_ : mg "isinstance" = none
  len_ : mg "len" = none
  list_ : mg "list" = none
  max_ : mg "max" = none
  min_ : mg "min" = none
  range_ : mg "range" = none
  repr_ : mg "repr" = none
  sorted_ : mg "sorted" = none
  str_ : mg "str" = none
  sum_ : mg "sum" = none
  tuple_ : mg "tuple" = none
  zip_ : mg "zip" = none
section
variable {P : Program} {w : World} {K : PySem.W.Frag} {mg : Str → Option Value} {base : Heap}
abbrev s__law_cells : Stmt := topS 51
abbrev N__law_cells : List Str := ["script", "most"]
theorem sc__law_cells : FnScope N__law_cells ["script", "most"] (defScope s__law_cells) := ⟨rfl, rfl, rfl, by decide +kernel, rfl, by decide +kernel, by decide +kernel⟩
theorem ok__law_cells {f : Addr} {fd : FuncData} (F : Fun K "_law_cells" "_law_cells" s__law_cells f fd) (B : Bi mg) : FnOk P w K mg base CX0 1 f fd ["script", "most"] (spF K 2 m__law_cells) := by
  refine def_okN 0 (sb := b__law_cells) F sc__law_cells rfl rfl rfl fun cdv A outer s H E hr => ⟨_, (pvb_one (pvs_ret (pv_lrg1 rfl (by rfl) B.list_ (by rfl) B.range_ (pv_callB (call_max2 rfl) max2_ok (by rfl) B.max_ (by decide +kernel) (pva_cons pv_int (pva_cons (pv_callB (call_min2 rfl) min2_ok (by rfl) B.min_ (by decide +kernel) (pva_cons (pv_var 1) (pva_cons (pv_lenK K (by rfl) B.len_ (pv_var 0)) pva_nil))) pva_nil))))))⟩
abbrev s__law_pot : Stmt := topS 48
abbrev N__law_pot : List Str := ["script", "place", "cell", "own", "small"]
theorem sc__law_pot : FnScope N__law_pot ["script", "place"] (defScope s__law_pot) := ⟨rfl, rfl, rfl, by decide +kernel, rfl, by decide +kernel, by decide +kernel⟩
theorem ok__law_pot {f : Addr} {fd : FuncData} (F : Fun K "_law_pot" "_law_pot" s__law_pot f fd) (B : Bi mg) : FnOk P w K mg base CX0 1 f fd ["script", "place"] (spF K 2 m__law_pot) := by
  refine def_okN 0 (sb := b__law_pot) F sc__law_pot rfl rfl rfl fun cdv A outer s H E hr => ⟨_, (pvb_cons (pvs_set 2 sc__law_pot.nd (pv_if (pvt_cmp op_lt lt_ok (pv_var 1) (pv_lenK K (by rfl) B.len_ (pv_var 0)) (nomark _)) (pv_ixsK K (pv_var 0) (pv_var 1) (fun _ _ => rfl)) (pv_addK K (pv_addK K (pv_mod (pv_callTy call_int1 int_ok (by rfl) B.int_ (by decide +kernel) (pva_cons (pv_callB (cr_sumK K rfl) sum_ok (by rfl) B.sum_ (by decide +kernel) (pva_cons (pv_sliceK K (pv_var 0) pvo_none (pvo_some pv_int)) pva_nil)) pva_nil)) pv_int) (pv_mulI pv_int (pv_var 1))) pv_int))) (pvb_cons (pvs_set 3 sc__law_pot.nd (pv_mulI (pv_mod (pv_callTy call_int1 int_ok (by rfl) B.int_ (by decide +kernel) (pva_cons (pv_callB call_abs abs_ok (by rfl) B.abs_ (by decide +kernel) (pva_cons (pv_var 2) pva_nil)) pva_nil)) (pv_powA (pv_powA pv_int pv_int) pv_int)) (pv_callTy call_int1 int_ok (by rfl) B.int_ (by decide +kernel) (pva_cons (pv_ge (pv_callB call_abs abs_ok (by rfl) B.abs_ (by decide +kernel) (pva_cons (pv_var 2) pva_nil)) (pv_powA pv_int pv_int)) pva_nil)))) (pvb_cons (pvs_set 4 sc__law_pot.nd (pv_mod (pv_callTy call_int1 int_ok (by rfl) B.int_ (by decide +kernel) (pva_cons (pv_var 2) pva_nil)) pv_int)) (pvb_one (pvs_ret (pv_lst (pva_cons (pv_var 3) (pva_cons (pv_mod (pv_callTy call_int1 int_ok (by rfl) B.int_ (by decide +kernel) (pva_cons (pv_addK K (pv_addK K (pv_mulI (pv_var 4) pv_int) (pv_mulI (pv_mulI pv_int (pv_var 1)) (pv_var 1))) pv_int) pva_nil)) pv_int) (pva_cons pv_int pva_nil)))))))))⟩
abbrev s__law_take : Stmt := topS 49
abbrev N__law_take : List Str := ["pot", "upto", "digit", "prime", "mixture"]
theorem sc__law_take : FnScope N__law_take ["pot", "upto"] (defScope s__law_take) := ⟨rfl, rfl, rfl, by decide +kernel, rfl, by decide +kernel, by decide +kernel⟩
theorem ok__law_take {f : Addr} {fd : FuncData} (F : Fun K "_law_take" "_law_take" s__law_take f fd) (B : Bi mg) : FnOk P w K mg base CX0 1 f fd ["pot", "upto"] (spF K 2 m__law_take) := by
  refine def_okN 0 (sb := b__law_take) F sc__law_take rfl rfl rfl fun cdv A outer s H E hr => ⟨_, (pvb_cons (pvs_if (pvt_cmp op_gt gt_ok (pv_ixsK K (pv_var 0) pv_int (fun _ _ => rfl)) pv_int (nomark _)) (pvb_cons (pvs_set 2 sc__law_take.nd (pv_mod (pv_callTy call_int1 int_ok (by rfl) B.int_ (by decide +kernel) (pva_cons (pv_ixsK K (pv_var 0) pv_int (fun _ _ => rfl)) pva_nil)) (pv_var 1))) (pvb_cons (pvs_setL (pv_var 0) pv_int (pv_div (pv_ixsK K (pv_var 0) pv_int (fun _ _ => rfl)) (pv_var 1))) (pvb_one (pvs_ret (pv_var 2))))) pvb_nil) (pvb_cons (pvs_setL (pv_var 0) pv_int (pv_addK K (pv_ixsK K (pv_var 0) pv_int (fun _ _ => rfl)) pv_int)) (pvb_cons (pvs_set 3 sc__law_take.nd (pv_ixsK K (pv_lst (pva_cons pv_int (pva_cons pv_int (pva_cons pv_int (pva_cons pv_int (pva_cons pv_int pva_nil)))))) (pv_mod (pv_callTy call_int1 int_ok (by rfl) B.int_ (by decide +kernel) (pva_cons (pv_ixsK K (pv_var 0) pv_int (fun _ _ => rfl)) pva_nil)) pv_int) (fun _ _ => rfl))) (pvb_cons (pvs_set 4 sc__law_take.nd (pv_mod (pv_callTy call_int1 int_ok (by rfl) B.int_ (by decide +kernel) (pva_cons (pv_powA (pv_callTy call_int1 int_ok (by rfl) B.int_ (by decide +kernel) (pva_cons (pv_addK K (pv_addK K (pv_ixsK K (pv_var 0) pv_int (fun _ _ => rfl)) (pv_mulI (pv_mulI pv_int (pv_ixsK K (pv_var 0) pv_int (fun _ _ => rfl))) (pv_ixsK K (pv_var 0) pv_int (fun _ _ => rfl)))) pv_int) pva_nil)) pv_int) pva_nil)) (pv_var 3))) (pvb_cons (pvs_set 4 sc__law_take.nd (pv_mod (pv_callTy call_int1 int_ok (by rfl) B.int_ (by decide +kernel) (pva_cons (pv_mulI (pv_var 4) (pv_addK K (pv_mod (pv_callTy call_int1 int_ok (by rfl) B.int_ (by decide +kernel) (pva_cons (pv_var 4) pva_nil)) pv_int) (pv_mulI pv_int (pv_ixsK K (pv_var 0) pv_int (fun _ _ => rfl))))) pva_nil)) pv_int)) (pvb_one (pvs_ret (pv_mod (pv_callTy call_int1 int_ok (by rfl) B.int_ (by decide +kernel) (pva_cons (pv_div (pv_var 4) pv_int) pva_nil)) (pv_var 1)))))))))⟩
abbrev s__law_of : Stmt := topS 50
abbrev N__law_of : List Str := ["pot", "some"]
theorem sc__law_of : FnScope N__law_of ["pot", "some"] (defScope s__law_of) := ⟨rfl, rfl, rfl, by decide +kernel, rfl, by decide +kernel, by decide +kernel⟩
theorem ok__law_of {f : Addr} {fd : FuncData} (F : Fun K "_law_of" "_law_of" s__law_of f fd) (B : Bi mg) (C__law_take : Def P w K mg base "_law_take" 1 ["pot", "upto"] 2 m__law_take) : FnOk P w K mg base CX0 2 f fd ["pot", "some"] (spF K 2 m__law_of) := by
  obtain ⟨f__law_take, fd__law_take, F__law_take, g__law_take, k__law_take, d__law_take⟩ := C__law_take
  refine def_okN 1 (sb := b__law_of) F sc__law_of rfl rfl rfl fun cdv A outer s H E hr => ⟨_, (pvb_one (pvs_ret (pv_ixsK K (pv_var 1) (pv_callK K F__law_take (hr.mono (by decide)) (by rfl) g__law_take k__law_take d__law_take (pva_cons (pv_var 0) (pva_cons (pv_lenK K (by rfl) B.len_ (pv_var 1)) pva_nil))) (fun _ _ => rfl))))⟩
abbrev s__law_traffic : Stmt := topS 53
abbrev N__law_traffic : List Str := ["pot", "size", "found", "tick"]
theorem sc__law_traffic : FnScope N__law_traffic ["pot"] (defScope s__law_traffic) := ⟨rfl, rfl, rfl, by decide +kernel, rfl, by decide +kernel, by decide +kernel⟩
theorem ok__law_traffic {f : Addr} {fd : FuncData} (F : Fun K "_law_traffic" "_law_traffic" s__law_traffic f fd) (B : Bi mg) (C__law_of : Def P w K mg base "_law_of" 2 ["pot", "some"] 2 m__law_of) (C__law_take : Def P w K mg base "_law_take" 1 ["pot", "upto"] 2 m__law_take) : FnOk P w K mg base CX0 3 f fd ["pot"] (spF K 1 m__law_traffic) := by
  obtain ⟨f__law_of, fd__law_of, F__law_of, g__law_of, k__law_of, d__law_of⟩ := C__law_of
  obtain ⟨f__law_take, fd__law_take, F__law_take, g__law_take, k__law_take, d__law_take⟩ := C__law_take
  refine def_okN 2 (sb := b__law_traffic) F sc__law_traffic rfl rfl rfl fun cdv A outer s H E hr => ⟨_, (pvb_cons (pvs_par rfl sc__law_traffic.nd (by decide) rfl rfl (pva_cons (pv_callK K F__law_of (hr.mono (by decide)) (by rfl) g__law_of k__law_of d__law_of (pva_cons (pv_var 0) (pva_cons (pv_lst (pva_cons pv_int (pva_cons pv_int (pva_cons pv_int pva_nil)))) pva_nil))) (pva_cons (pv_tup pva_nil) pva_nil)) (by rfl)) (pvb_cons (pvs_for PassesOwn.never rfl (pvi_range1 (by rfl) B.range_ (pva_cons (pv_callK K F__law_take (hr.mono (by decide)) (by rfl) g__law_take k__law_take d__law_take (pva_cons (pv_var 0) (pva_cons (pv_callK K F__law_of (hr.mono (by decide)) (by rfl) g__law_of k__law_of d__law_of (pva_cons (pv_var 0) (pva_cons (pv_lst (pva_cons pv_int (pva_cons pv_int pva_nil))) pva_nil))) pva_nil))) pva_nil)) (pvg_name 3 sc__law_traffic.nd) (pvb_one (pvs_set 2 sc__law_traffic.nd (pv_addK K (pv_var 2) (pv_tup (pva_cons (pv_mulI (pv_callTy call_int1 int_ok (by rfl) B.int_ (by decide +kernel) (pva_cons (pv_callK K F__law_take (hr.mono (by decide)) (by rfl) g__law_take k__law_take d__law_take (pva_cons (pv_var 0) (pva_cons (pv_var 1) pva_nil))) pva_nil)) (pv_callTy call_int1 int_ok (by rfl) B.int_ (by decide +kernel) (pva_cons (pv_gt (pv_callK K F__law_take (hr.mono (by decide)) (by rfl) g__law_take k__law_take d__law_take (pva_cons (pv_var 0) (pva_cons pv_int pva_nil))) pv_int) pva_nil))) pva_nil)))))) (pvb_one (pvs_ret (pv_var 2)))))⟩
abbrev s_is_int : Stmt := topS 7
abbrev N_is_int : List Str := ["value", "low", "high"]
theorem sc_is_int : FnScope N_is_int ["value", "low", "high"] (defScope s_is_int) := ⟨rfl, rfl, rfl, by decide +kernel, rfl, by decide +kernel, by decide +kernel⟩
theorem ok_is_int {f : Addr} {fd : FuncData} (F : Fun K "is_int" "is_int" s_is_int f fd) (B : Bi mg) : FnOk P w K mg base CX0 1 f fd ["value", "low", "high"] (spF K 3 m_is_int) := by
  refine def_okN 0 (sb := b_is_int) F sc_is_int rfl rfl rfl fun cdv A outer s H E hr => ⟨_, (pvb_one (pvs_ret (pv_and (pv_isiK K (cn := "int") (pv_var 0) (by rfl) B.isinstance_ (by rfl) B.int_ (by decide +kernel)) (pv_and (pv_not (pv_isiK K (cn := "bool") (pv_var 0) (by rfl) B.isinstance_ (by rfl) B.bool_ (by decide +kernel))) (pv_one (pv_chain op_le le_ok op_le le_ok (pv_var 1) (pv_var 0) (pv_var 2)))))))⟩
abbrev s_is_curve : Stmt := topS 21
abbrev N_is_curve : List Str := ["value", "pair", "one", "other"]
theorem sc_is_curve : FnScope N_is_curve ["value"] (defScope s_is_curve) := ⟨rfl, rfl, rfl, by decide +kernel, rfl, by decide +kernel, by decide +kernel⟩
theorem ok_is_curve {f : Addr} {fd : FuncData} (F : Fun K "is_curve" "is_curve" s_is_curve f fd) (B : Bi mg) (C_is_int : Def P w K mg base "is_int" 1 ["value", "low", "high"] 3 m_is_int) (I_MOST_BURST : ∃ t, mg "MOST_BURST" = some (.int 400 t)) (I_MOST_PAIRS : ∃ t, mg "MOST_PAIRS" = some (.int 8 t)) (I_MOST_RATE : ∃ t, mg "MOST_RATE" = some (.int 100 t)) : FnOk P w K mg base CX0 2 f fd ["value"] (spF K 1 m_is_curve) := by
  obtain ⟨f_is_int, fd_is_int, F_is_int, g_is_int, k_is_int, d_is_int⟩ := C_is_int
  obtain ⟨t_MOST_BURST, g_MOST_BURST⟩ := I_MOST_BURST
  obtain ⟨t_MOST_PAIRS, g_MOST_PAIRS⟩ := I_MOST_PAIRS
  obtain ⟨t_MOST_RATE, g_MOST_RATE⟩ := I_MOST_RATE
  refine def_okN 1 (sb := b_is_curve) F sc_is_curve rfl rfl rfl fun cdv A outer s H E hr => ⟨_, (pvb_cons (pvs_if (PVW.pt (pvw_or (pvt_not (pvt_val (pv_isiK K (cn := "tuple") (pv_var 0) (by rfl) B.isinstance_ (by rfl) B.tuple_ (by decide +kernel)))) (pvw_or1 (pvt_not (pvt_chain op_le le_ok op_le le_ok pv_int (pv_lenK K (by rfl) B.len_ (pv_var 0)) (pv_globI (by rfl) g_MOST_PAIRS ⟨_, rfl⟩)))))) (pvb_one (pvs_ret pv_bl)) pvb_nil) (pvb_cons (pvs_for PassesOwn.never rfl (pvi_tup (pv_var 0)) (pvg_name 1 sc_is_curve.nd) (pvb_cons (pvs_if (PVW.pt (pvw_or (pvt_not (pvt_val (pv_isiK K (cn := "tuple") (pv_var 1) (by rfl) B.isinstance_ (by rfl) B.tuple_ (by decide +kernel)))) (pvw_or1 (pvt_cmp (op_neDK K hr.units) ne_ok (pv_lenK K (by rfl) B.len_ (pv_var 1)) pv_int (nomark _))))) (pvb_one (pvs_ret pv_bl)) pvb_nil) (pvb_one (pvs_if (PVW.pt (pvw_or (pvt_not (pvt_val (pv_callK K F_is_int (hr.mono (by decide)) (by rfl) g_is_int k_is_int d_is_int (pva_cons (pv_ixsK K (pv_var 1) pv_int (fun _ _ => rfl)) (pva_cons pv_int (pva_cons (pv_globI (by rfl) g_MOST_BURST ⟨_, rfl⟩) pva_nil)))))) (pvw_or1 (pvt_not (pvt_val (pv_callK K F_is_int (hr.mono (by decide)) (by rfl) g_is_int k_is_int d_is_int (pva_cons (pv_ixsK K (pv_var 1) pv_int (fun _ _ => rfl)) (pva_cons pv_int (pva_cons (pv_globI (by rfl) g_MOST_RATE ⟨_, rfl⟩) pva_nil))))))))) (pvb_one (pvs_ret pv_bl)) pvb_nil)))) (pvb_one (pvs_ret (pv_callB (cr_allK K rfl) all_ok (by rfl) B.all_ (by decide +kernel) (pva_cons (pv_lc (own := [("one", 2), ("other", 3)]) rfl sc_is_curve.nd (pvi_zip (by rfl) B.zip_ (pva_cons (pv_var 0) (pva_cons (pv_sliceK K (pv_var 0) (pvo_some pv_int) pvo_none) pva_nil))) (blkOk_by (own := [("one", 2), ("other", 3)]) (N := N_is_curve) (sc := defScope s_is_curve) (by decide +kernel)) (fun _ _ _ _ _ => (pvg_tupK K rfl (pvg_cons (pvg_name 2 sc_is_curve.nd) (pvg_cons (pvg_name 3 sc_is_curve.nd) pvg_nil)))) (own_tup (own_cons (own_name (by decide)) (own_cons (own_name (by decide)) own_nil))) (fun _ _ _ _ _ => pvts_nil) (fun _ _ _ _ _ => (pv_and (pv_lt (pv_ixsK K (pv_var 2) pv_int (fun _ _ => rfl)) (pv_ixsK K (pv_var 3) pv_int (fun _ _ => rfl))) (pv_one (pv_gt (pv_ixsK K (pv_var 2) pv_int (fun _ _ => rfl)) (pv_ixsK K (pv_var 3) pv_int (fun _ _ => rfl)))))) s H) pva_nil))))))⟩
abbrev s_look_at_curve : Stmt := topS 22
abbrev N_look_at_curve : List Str := ["curve"]
theorem sc_look_at_curve : FnScope N_look_at_curve ["curve"] (defScope s_look_at_curve) := ⟨rfl, rfl, rfl, by decide +kernel, rfl, by decide +kernel, by decide +kernel⟩
theorem ok_look_at_curve {f : Addr} {fd : FuncData} (F : Fun K "look_at_curve" "look_at_curve" s_look_at_curve f fd) (B : Bi mg) (C_is_curve : Def P w K mg base "is_curve" 2 ["value"] 1 m_is_curve) : FnOk P w K mg base CX0 3 f fd ["curve"] (spF K 1 m_look_at_curve) := by
  obtain ⟨f_is_curve, fd_is_curve, F_is_curve, g_is_curve, k_is_curve, d_is_curve⟩ := C_is_curve
  refine def_okN 2 (sb := b_look_at_curve) F sc_look_at_curve rfl rfl rfl fun cdv A outer s H E hr => ⟨_, (pvb_one (pvs_if (pvt_not (pvt_val (pv_callK K F_is_curve (hr.mono (by decide)) (by rfl) g_is_curve k_is_curve d_is_curve (pva_cons (pv_var 0) pva_nil)))) (pvb_one pvs_no) pvb_nil))⟩
abbrev s_is_traffic : Stmt := topS 25
abbrev N_is_traffic : List Str := ["value", "one"]
theorem sc_is_traffic : FnScope N_is_traffic ["value"] (defScope s_is_traffic) := ⟨rfl, rfl, rfl, by decide +kernel, rfl, by decide +kernel, by decide +kernel⟩
theorem ok_is_traffic {f : Addr} {fd : FuncData} (F : Fun K "is_traffic" "is_traffic" s_is_traffic f fd) (B : Bi mg) (C_is_int : Def P w K mg base "is_int" 1 ["value", "low", "high"] 3 m_is_int) (I_MOST_SIZE : ∃ t, mg "MOST_SIZE" = some (.int 1000 t)) (I_MOST_TICKS : ∃ t, mg "MOST_TICKS" = some (.int 500 t)) : FnOk P w K mg base CX0 2 f fd ["value"] (spF K 1 m_is_traffic) := by
  obtain ⟨f_is_int, fd_is_int, F_is_int, g_is_int, k_is_int, d_is_int⟩ := C_is_int
  obtain ⟨t_MOST_SIZE, g_MOST_SIZE⟩ := I_MOST_SIZE
  obtain ⟨t_MOST_TICKS, g_MOST_TICKS⟩ := I_MOST_TICKS
  refine def_okN 1 (sb := b_is_traffic) F sc_is_traffic rfl rfl rfl fun cdv A outer s H E hr => ⟨_, (pvb_one (pvs_ret (pv_and (pv_isiK K (cn := "tuple") (pv_var 0) (by rfl) B.isinstance_ (by rfl) B.tuple_ (by decide +kernel)) (pv_and (pv_le (pv_lenK K (by rfl) B.len_ (pv_var 0)) (pv_globI (by rfl) g_MOST_TICKS ⟨_, rfl⟩)) (pv_one (pv_callB (cr_allK K rfl) all_ok (by rfl) B.all_ (by decide +kernel) (pva_cons (pv_lc (own := [("one", 1)]) rfl sc_is_traffic.nd (pvi_tup (pv_var 0)) (blkOk_by (own := [("one", 1)]) (N := N_is_traffic) (sc := defScope s_is_traffic) (by decide +kernel)) (fun _ _ _ _ _ => (pvg_name 1 sc_is_traffic.nd)) (own_name (by decide)) (fun _ _ _ _ _ => pvts_nil) (fun _ _ _ _ _ => (pv_callK K F_is_int (hr.mono (by decide)) (by rfl) g_is_int k_is_int d_is_int (pva_cons (pv_var 1) (pva_cons pv_int (pva_cons (pv_globI (by rfl) g_MOST_SIZE ⟨_, rfl⟩) pva_nil))))) s H) pva_nil)))))))⟩
abbrev s_look_at_traffic : Stmt := topS 26
abbrev N_look_at_traffic : List Str := ["traffic"]
theorem sc_look_at_traffic : FnScope N_look_at_traffic ["traffic"] (defScope s_look_at_traffic) := ⟨rfl, rfl, rfl, by decide +kernel, rfl, by decide +kernel, by decide +kernel⟩
theorem ok_look_at_traffic {f : Addr} {fd : FuncData} (F : Fun K "look_at_traffic" "look_at_traffic" s_look_at_traffic f fd) (B : Bi mg) (C_is_traffic : Def P w K mg base "is_traffic" 2 ["value"] 1 m_is_traffic) : FnOk P w K mg base CX0 3 f fd ["traffic"] (spF K 1 m_look_at_traffic) := by
  obtain ⟨f_is_traffic, fd_is_traffic, F_is_traffic, g_is_traffic, k_is_traffic, d_is_traffic⟩ := C_is_traffic
  refine def_okN 2 (sb := b_look_at_traffic) F sc_look_at_traffic rfl rfl rfl fun cdv A outer s H E hr => ⟨_, (pvb_one (pvs_if (pvt_not (pvt_val (pv_callK K F_is_traffic (hr.mono (by decide)) (by rfl) g_is_traffic k_is_traffic d_is_traffic (pva_cons (pv_var 0) pva_nil)))) (pvb_one pvs_no) pvb_nil))⟩
abbrev s_buckets_of : Stmt := topS 34
abbrev N_buckets_of : List Str := ["curve", "burst", "rate"]
theorem sc_buckets_of : FnScope N_buckets_of ["curve"] (defScope s_buckets_of) := ⟨rfl, rfl, rfl, by decide +kernel, rfl, by decide +kernel, by decide +kernel⟩
theorem ok_buckets_of {f : Addr} {fd : FuncData} (F : Fun K "buckets_of" "buckets_of" s_buckets_of f fd) (B : Bi mg) : FnOk P w K mg base CX0 1 f fd ["curve"] (spF K 1 m_buckets_of) := by
  refine def_okN 0 (sb := b_buckets_of) F sc_buckets_of rfl rfl rfl fun cdv A outer s H E hr => ⟨_, (pvb_one (pvs_ret (pv_lc (own := [("burst", 1), ("rate", 2)]) rfl sc_buckets_of.nd (pvi_tup (pv_var 0)) (blkOk_by (own := [("burst", 1), ("rate", 2)]) (N := N_buckets_of) (sc := defScope s_buckets_of) (by decide +kernel)) (fun _ _ _ _ _ => (pvg_tupK K rfl (pvg_cons (pvg_name 1 sc_buckets_of.nd) (pvg_cons (pvg_name 2 sc_buckets_of.nd) pvg_nil)))) (own_tup (own_cons (own_name (by decide)) (own_cons (own_name (by decide)) own_nil))) (fun _ _ _ _ _ => pvts_nil) (fun _ _ _ _ _ => (pv_tup (pva_cons (pv_addK K (pv_var 1) (pv_var 2)) (pva_cons (pv_var 2) pva_nil)))) s H)))⟩
abbrev s_told_let : Stmt := topS 35
abbrev N_told_let : List Str := ["curve", "traffic", "buckets", "full", "found", "waits", "goes", "most", "rate", "left"]
theorem sc_told_let : FnScope N_told_let ["curve", "traffic"] (defScope s_told_let) := ⟨rfl, rfl, rfl, by decide +kernel, rfl, by decide +kernel, by decide +kernel⟩
theorem ok_told_let {f : Addr} {fd : FuncData} (F : Fun K "told_let" "told_let" s_told_let f fd) (B : Bi mg) (C_buckets_of : Def P w K mg base "buckets_of" 1 ["curve"] 1 m_buckets_of) (I_MOST_WAITED : ∃ t, mg "MOST_WAITED" = some (.int 2000 t)) : FnOk P w K mg base CX0 2 f fd ["curve", "traffic"] (spF K 2 m_told_let) := by
  obtain ⟨f_buckets_of, fd_buckets_of, F_buckets_of, g_buckets_of, k_buckets_of, d_buckets_of⟩ := C_buckets_of
  obtain ⟨t_MOST_WAITED, g_MOST_WAITED⟩ := I_MOST_WAITED
  refine def_okN 1 (sb := b_told_let) F sc_told_let rfl rfl rfl fun cdv A outer s H E hr => ⟨_, (pvb_cons (pvs_set 2 sc_told_let.nd (pv_callK K F_buckets_of (hr.mono (by decide)) (by rfl) g_buckets_of k_buckets_of d_buckets_of (pva_cons (pv_var 0) pva_nil))) (pvb_cons (pvs_par3 rfl sc_told_let.nd (by decide) (by decide) (by decide) rfl rfl rfl (pva_cons (pv_lc (own := [("most", 7), ("rate", 8)]) rfl sc_told_let.nd (pvi_list (pv_var 2)) (blkOk_by (own := [("most", 7), ("rate", 8)]) (N := N_told_let) (sc := defScope s_told_let) (by decide +kernel)) (fun _ _ _ _ _ => (pvg_tupK K rfl (pvg_cons (pvg_name 7 sc_told_let.nd) (pvg_cons (pvg_name 8 sc_told_let.nd) pvg_nil)))) (own_tup (own_cons (own_name (by decide)) (own_cons (own_name (by decide)) own_nil))) (fun _ _ _ _ _ => pvts_nil) (fun _ _ _ _ _ => (pv_var 7)) s H) (pva_cons (pv_lst pva_nil) (pva_cons pv_int pva_nil))) (by rfl)) (pvb_cons (pvs_while 2300 PassesOwn.never (PVW.pt (pvw_or (pvt_cmp op_lt lt_ok (pv_lenK K (by rfl) B.len_ (pv_var 4)) (pv_lenK K (by rfl) B.len_ (pv_var 1)) (nomark _)) (pvw_or1 (pvt_cmp op_gt gt_ok (pv_var 5) pv_int (nomark _))))) (pvb_cons (pvs_aug 5 ip_add ipAdd_ok sc_told_let.nd (pv_if (pvt_cmp op_lt lt_ok (pv_lenK K (by rfl) B.len_ (pv_var 4)) (pv_lenK K (by rfl) B.len_ (pv_var 1)) (nomark _)) (pv_ixsK K (pv_var 1) (pv_lenK K (by rfl) B.len_ (pv_var 4)) (fun _ _ => rfl)) pv_int)) (pvb_cons (pvs_set 6 sc_told_let.nd (pv_callB (cr_minK K rfl) min_ok (by rfl) B.min_ (by decide +kernel) (pva_cons (pv_lst (pva_cons (pv_var 5) (pva_star (pv_var 3) pva_nil))) pva_nil)) (hx := Or.inr rfl)) (pvb_cons (pvs_expr (pv_appendK K (pv_var 4) (pva_cons (pv_var 6) pva_nil))) (pvb_cons (pvs_aug 5 ip_sub ipSub_ok sc_told_let.nd (pv_var 6)) (pvb_cons (pvs_setLc (own := [("most", 7), ("rate", 8), ("left", 9)]) 3 rfl sc_told_let.nd rfl rfl (pvi_zip (by rfl) B.zip_ (pva_cons (pv_var 2) (pva_cons (pv_var 3) pva_nil))) (blkOk_by (own := [("most", 7), ("rate", 8), ("left", 9)]) (N := N_told_let) (sc := defScope s_told_let) (by decide +kernel)) (fun _ _ _ _ _ => (pvg_tupK K rfl (pvg_cons (pvg_tupK K rfl (pvg_cons (pvg_name 7 sc_told_let.nd) (pvg_cons (pvg_name 8 sc_told_let.nd) pvg_nil))) (pvg_cons (pvg_name 9 sc_told_let.nd) pvg_nil)))) (own_tup (own_cons (own_tup (own_cons (own_name (by decide)) (own_cons (own_name (by decide)) own_nil))) (own_cons (own_name (by decide)) own_nil))) (fun _ _ _ _ _ => pvts_nil) (fun _ _ _ _ _ => (pv_callB (call_min2 rfl) min2_ok (by rfl) B.min_ (by decide +kernel) (pva_cons (pv_var 7) (pva_cons (pv_addK K (pv_sub (pv_var 9) (pv_var 6)) (pv_var 8)) pva_nil)))) s H) (pvb_cons (pvs_if (PVW.pt (pvw_and (pvt_cmp op_gt gt_ok (pv_var 5) pv_int (nomark _)) (pvw_and1 (pvt_val (pv_callB (cr_anyK K rfl) any_ok (by rfl) B.any_ (by decide +kernel) (pva_cons (pv_lc (own := [("most", 7), ("rate", 8), ("left", 9)]) rfl sc_told_let.nd (pvi_zip (by rfl) B.zip_ (pva_cons (pv_var 2) (pva_cons (pv_var 3) pva_nil))) (blkOk_by (own := [("most", 7), ("rate", 8), ("left", 9)]) (N := N_told_let) (sc := defScope s_told_let) (by decide +kernel)) (fun _ _ _ _ _ => (pvg_tupK K rfl (pvg_cons (pvg_tupK K rfl (pvg_cons (pvg_name 7 sc_told_let.nd) (pvg_cons (pvg_name 8 sc_told_let.nd) pvg_nil))) (pvg_cons (pvg_name 9 sc_told_let.nd) pvg_nil)))) (own_tup (own_cons (own_tup (own_cons (own_name (by decide)) (own_cons (own_name (by decide)) own_nil))) (own_cons (own_name (by decide)) own_nil))) (fun _ _ _ _ _ => pvts_nil) (fun _ _ _ _ _ => (pv_and (pv_eqK K hr.units (pv_var 8) pv_int) (pv_one (pv_eqK K hr.units (pv_var 9) pv_int)))) s H) pva_nil)))))) (pvb_one (pvs_ret pv_non)) pvb_nil) (pvb_one (pvs_if (pvt_cmp op_gt gt_ok (pv_lenK K (by rfl) B.len_ (pv_var 4)) (pv_globI (by rfl) g_MOST_WAITED ⟨_, rfl⟩) (nomark _)) (pvb_one pvs_no) pvb_nil))))))))) (pvb_one (pvs_ret (pv_callTy (cr_tupleK K) tuple_ok (by rfl) B.tuple_ (by decide +kernel) (pva_cons (pv_var 4) pva_nil)))))))⟩
abbrev s_shaped : Stmt := topS 36
abbrev N_shaped : List Str := ["curve", "traffic"]
theorem sc_shaped : FnScope N_shaped ["curve", "traffic"] (defScope s_shaped) := ⟨rfl, rfl, rfl, by decide +kernel, rfl, by decide +kernel, by decide +kernel⟩
theorem ok_shaped {f : Addr} {fd : FuncData} (F : Fun K "shaped" "shaped" s_shaped f fd) (B : Bi mg) (C_look_at_curve : Def P w K mg base "look_at_curve" 3 ["curve"] 1 m_look_at_curve) (C_look_at_traffic : Def P w K mg base "look_at_traffic" 3 ["traffic"] 1 m_look_at_traffic) (C_told_let : Def P w K mg base "told_let" 2 ["curve", "traffic"] 2 m_told_let) : FnOk P w K mg base CX0 4 f fd ["curve", "traffic"] (spF K 2 m_shaped) := by
  obtain ⟨f_look_at_curve, fd_look_at_curve, F_look_at_curve, g_look_at_curve, k_look_at_curve, d_look_at_curve⟩ := C_look_at_curve
  obtain ⟨f_look_at_traffic, fd_look_at_traffic, F_look_at_traffic, g_look_at_traffic, k_look_at_traffic, d_look_at_traffic⟩ := C_look_at_traffic
  obtain ⟨f_told_let, fd_told_let, F_told_let, g_told_let, k_told_let, d_told_let⟩ := C_told_let
  refine def_okN 3 (sb := b_shaped) F sc_shaped rfl rfl rfl fun cdv A outer s H E hr => ⟨_, (pvb_cons (pvs_expr (pv_callK K F_look_at_curve (hr.mono (by decide)) (by rfl) g_look_at_curve k_look_at_curve d_look_at_curve (pva_cons (pv_var 0) pva_nil))) (pvb_cons (pvs_expr (pv_callK K F_look_at_traffic (hr.mono (by decide)) (by rfl) g_look_at_traffic k_look_at_traffic d_look_at_traffic (pva_cons (pv_var 1) pva_nil))) (pvb_one (pvs_ret (pv_callK K F_told_let (hr.mono (by decide)) (by rfl) g_told_let k_told_let d_told_let (pva_cons (pv_var 0) (pva_cons (pv_var 1) pva_nil)))))))⟩
abbrev s_told_at : Stmt := topS 27
abbrev N_told_at : List Str := ["curve", "ticks", "burst", "rate"]
theorem sc_told_at : FnScope N_told_at ["curve", "ticks"] (defScope s_told_at) := ⟨rfl, rfl, rfl, by decide +kernel, rfl, by decide +kernel, by decide +kernel⟩
theorem ok_told_at {f : Addr} {fd : FuncData} (F : Fun K "told_at" "told_at" s_told_at f fd) (B : Bi mg) : FnOk P w K mg base CX0 1 f fd ["curve", "ticks"] (spF K 2 m_told_at) := by
  refine def_okN 0 (sb := b_told_at) F sc_told_at rfl rfl rfl fun cdv A outer s H E hr => ⟨_, (pvb_one (pvs_ret (pv_if (pvt_cmp op_gt gt_ok (pv_var 1) pv_int (nomark _)) (pv_callB (cr_minK K rfl) min_ok (by rfl) B.min_ (by decide +kernel) (pva_cons (pv_lc (own := [("burst", 2), ("rate", 3)]) rfl sc_told_at.nd (pvi_tup (pv_var 0)) (blkOk_by (own := [("burst", 2), ("rate", 3)]) (N := N_told_at) (sc := defScope s_told_at) (by decide +kernel)) (fun _ _ _ _ _ => (pvg_tupK K rfl (pvg_cons (pvg_name 2 sc_told_at.nd) (pvg_cons (pvg_name 3 sc_told_at.nd) pvg_nil)))) (own_tup (own_cons (own_name (by decide)) (own_cons (own_name (by decide)) own_nil))) (fun _ _ _ _ _ => pvts_nil) (fun _ _ _ _ _ => (pv_addK K (pv_var 2) (pv_mulI (pv_var 3) (pv_var 1)))) s H) pva_nil)) pv_int)))⟩
abbrev s_too_much : Stmt := topS 31
abbrev N_too_much : List Str := ["curve", "traffic", "start", "total", "many"]
theorem sc_too_much : FnScope N_too_much ["curve", "traffic"] (defScope s_too_much) := ⟨rfl, rfl, rfl, by decide +kernel, rfl, by decide +kernel, by decide +kernel⟩
theorem ok_too_much {f : Addr} {fd : FuncData} (F : Fun K "too_much" "too_much" s_too_much f fd) (B : Bi mg) (C_told_at : Def P w K mg base "told_at" 1 ["curve", "ticks"] 2 m_told_at) : FnOk P w K mg base CX0 2 f fd ["curve", "traffic"] (spF K 2 m_too_much) := by
  obtain ⟨f_told_at, fd_told_at, F_told_at, g_told_at, k_told_at, d_told_at⟩ := C_told_at
  refine def_okN 1 (sb := b_too_much) F sc_too_much rfl rfl rfl fun cdv A outer s H E hr => ⟨_, (pvb_cons (pvs_for PassesOwn.never rfl (pvi_range1 (by rfl) B.range_ (pva_cons (pv_lenK K (by rfl) B.len_ (pv_var 1)) pva_nil)) (pvg_name 2 sc_too_much.nd) (pvb_cons (pvs_set 3 sc_too_much.nd pv_int) (pvb_one (pvs_for PassesOwn.never rfl (pvi_range2 (by rfl) B.range_ (pva_cons pv_int (pva_cons (pv_addK K (pv_sub (pv_lenK K (by rfl) B.len_ (pv_var 1)) (pv_var 2)) pv_int) pva_nil))) (pvg_name 4 sc_too_much.nd) (pvb_cons (pvs_aug 3 ip_add ipAdd_ok sc_too_much.nd (pv_ixsK K (pv_var 1) (pv_sub (pv_addK K (pv_var 2) (pv_var 4)) pv_int) (fun _ _ => rfl))) (pvb_one (pvs_if (pvt_cmp op_gt gt_ok (pv_var 3) (pv_callK K F_told_at (hr.mono (by decide)) (by rfl) g_told_at k_told_at d_told_at (pva_cons (pv_var 0) (pva_cons (pv_var 4) pva_nil))) (nomark _)) (pvb_one (pvs_ret (pv_tup (pva_cons (pv_var 2) (pva_cons (pv_var 4) pva_nil))))) pvb_nil))))))) (pvb_one (pvs_ret pv_non)))⟩
abbrev s_fits : Stmt := topS 32
abbrev N_fits : List Str := ["curve", "traffic", "told"]
theorem sc_fits : FnScope N_fits ["curve", "traffic"] (defScope s_fits) := ⟨rfl, rfl, rfl, by decide +kernel, rfl, by decide +kernel, by decide +kernel⟩
theorem ok_fits {f : Addr} {fd : FuncData} (F : Fun K "fits" "fits" s_fits f fd) (B : Bi mg) (C_look_at_curve : Def P w K mg base "look_at_curve" 3 ["curve"] 1 m_look_at_curve) (C_look_at_traffic : Def P w K mg base "look_at_traffic" 3 ["traffic"] 1 m_look_at_traffic) (C_too_much : Def P w K mg base "too_much" 2 ["curve", "traffic"] 2 m_too_much) (I_FITS : ∃ t, mg "FITS" = some (.str "fits" t)) (I_MORE : ∃ t, mg "MORE" = some (.str "more" t)) : FnOk P w K mg base CX0 4 f fd ["curve", "traffic"] (spF K 2 m_fits) := by
  obtain ⟨f_look_at_curve, fd_look_at_curve, F_look_at_curve, g_look_at_curve, k_look_at_curve, d_look_at_curve⟩ := C_look_at_curve
  obtain ⟨f_look_at_traffic, fd_look_at_traffic, F_look_at_traffic, g_look_at_traffic, k_look_at_traffic, d_look_at_traffic⟩ := C_look_at_traffic
  obtain ⟨f_too_much, fd_too_much, F_too_much, g_too_much, k_too_much, d_too_much⟩ := C_too_much
  obtain ⟨t_FITS, g_FITS⟩ := I_FITS
  obtain ⟨t_MORE, g_MORE⟩ := I_MORE
  refine def_okN 3 (sb := b_fits) F sc_fits rfl rfl rfl fun cdv A outer s H E hr => ⟨_, (pvb_cons (pvs_expr (pv_callK K F_look_at_curve (hr.mono (by decide)) (by rfl) g_look_at_curve k_look_at_curve d_look_at_curve (pva_cons (pv_var 0) pva_nil))) (pvb_cons (pvs_expr (pv_callK K F_look_at_traffic (hr.mono (by decide)) (by rfl) g_look_at_traffic k_look_at_traffic d_look_at_traffic (pva_cons (pv_var 1) pva_nil))) (pvb_cons (pvs_set 2 sc_fits.nd (pv_callK K F_too_much (hr.mono (by decide)) (by rfl) g_too_much k_too_much d_too_much (pva_cons (pv_var 0) (pva_cons (pv_var 1) pva_nil)))) (pvb_one (pvs_ret (pv_if (pvt_cmp op_isN isN_ok (pv_var 2) pv_non (nomark _)) (pv_tup (pva_cons (pv_globS (by rfl) g_FITS ⟨_, rfl⟩) pva_nil)) (pv_tup (pva_cons (pv_globS (by rfl) g_MORE ⟨_, rfl⟩) (pva_star (pv_var 2) pva_nil)))))))))⟩
abbrev s_least_burst : Stmt := topS 37
abbrev N_least_burst : List Str := ["traffic", "rate", "best", "here", "size"]
theorem sc_least_burst : FnScope N_least_burst ["traffic", "rate"] (defScope s_least_burst) := ⟨rfl, rfl, rfl, by decide +kernel, rfl, by decide +kernel, by decide +kernel⟩
theorem ok_least_burst {f : Addr} {fd : FuncData} (F : Fun K "least_burst" "least_burst" s_least_burst f fd) (B : Bi mg) (C_look_at_traffic : Def P w K mg base "look_at_traffic" 3 ["traffic"] 1 m_look_at_traffic) (C_is_int : Def P w K mg base "is_int" 1 ["value", "low", "high"] 3 m_is_int) (I_MOST_RATE : ∃ t, mg "MOST_RATE" = some (.int 100 t)) : FnOk P w K mg base CX0 4 f fd ["traffic", "rate"] (spF K 2 m_least_burst) := by
  obtain ⟨f_look_at_traffic, fd_look_at_traffic, F_look_at_traffic, g_look_at_traffic, k_look_at_traffic, d_look_at_traffic⟩ := C_look_at_traffic
  obtain ⟨f_is_int, fd_is_int, F_is_int, g_is_int, k_is_int, d_is_int⟩ := C_is_int
  obtain ⟨t_MOST_RATE, g_MOST_RATE⟩ := I_MOST_RATE
  refine def_okN 3 (sb := b_least_burst) F sc_least_burst rfl rfl rfl fun cdv A outer s H E hr => ⟨_, (pvb_cons (pvs_expr (pv_callK K F_look_at_traffic (hr.mono (by decide)) (by rfl) g_look_at_traffic k_look_at_traffic d_look_at_traffic (pva_cons (pv_var 0) pva_nil))) (pvb_cons (pvs_if (pvt_not (pvt_val (pv_callK K F_is_int (hr.mono (by decide)) (by rfl) g_is_int k_is_int d_is_int (pva_cons (pv_var 1) (pva_cons pv_int (pva_cons (pv_globI (by rfl) g_MOST_RATE ⟨_, rfl⟩) pva_nil)))))) (pvb_one pvs_no) pvb_nil) (pvb_cons (pvs_asg (pv_tup (pva_cons pv_int (pva_cons pv_int pva_nil))) (pvg_tupK K rfl (pvg_cons (pvg_name 2 sc_least_burst.nd) (pvg_cons (pvg_name 3 sc_least_burst.nd) pvg_nil)))) (pvb_cons (pvs_for PassesOwn.never rfl (pvi_tup (pv_var 0)) (pvg_name 4 sc_least_burst.nd) (pvb_cons (pvs_set 3 sc_least_burst.nd (pv_sub (pv_addK K (pv_callB (call_max2 rfl) max2_ok (by rfl) B.max_ (by decide +kernel) (pva_cons pv_int (pva_cons (pv_var 3) pva_nil))) (pv_var 4)) (pv_var 1))) (pvb_one (pvs_set 2 sc_least_burst.nd (pv_callB (call_max2 rfl) max2_ok (by rfl) B.max_ (by decide +kernel) (pva_cons (pv_var 2) (pva_cons (pv_var 3) pva_nil))))))) (pvb_one (pvs_ret (pv_var 2)))))))⟩
abbrev s__law_is_shaped_right : Stmt := topS 59
abbrev N__law_is_shaped_right : List Str := ["pot", "traffic", "rate", "burst", "told", "whole", "full", "waits", "found", "tick", "lap", "goes"]
theorem sc__law_is_shaped_right : FnScope N__law_is_shaped_right ["pot", "traffic", "rate"] (defScope s__law_is_shaped_right) := ⟨rfl, rfl, rfl, by decide +kernel, rfl, by decide +kernel, by decide +kernel⟩
theorem ok__law_is_shaped_right {f : Addr} {fd : FuncData} (F : Fun K "_law_is_shaped_right" "_law_is_shaped_right" s__law_is_shaped_right f fd) (B : Bi mg) (C__law_take : Def P w K mg base "_law_take" 1 ["pot", "upto"] 2 m__law_take) (C_shaped : Def P w K mg base "shaped" 4 ["curve", "traffic"] 2 m_shaped) (C_fits : Def P w K mg base "fits" 4 ["curve", "traffic"] 2 m_fits) (C_least_burst : Def P w K mg base "least_burst" 4 ["traffic", "rate"] 2 m_least_burst) : FnOk P w K mg base CX0 5 f fd ["pot", "traffic", "rate"] (spF K 3 m__law_is_shaped_right) := by
  obtain ⟨f__law_take, fd__law_take, F__law_take, g__law_take, k__law_take, d__law_take⟩ := C__law_take
  obtain ⟨f_shaped, fd_shaped, F_shaped, g_shaped, k_shaped, d_shaped⟩ := C_shaped
  obtain ⟨f_fits, fd_fits, F_fits, g_fits, k_fits, d_fits⟩ := C_fits
  obtain ⟨f_least_burst, fd_least_burst, F_least_burst, g_least_burst, k_least_burst, d_least_burst⟩ := C_least_burst
  refine def_okN 4 (sb := b__law_is_shaped_right) F sc__law_is_shaped_right rfl rfl rfl fun cdv A outer s H E hr => ⟨_, (pvb_cons (pvs_set 3 sc__law_is_shaped_right.nd (pv_callTy call_int1 int_ok (by rfl) B.int_ (by decide +kernel) (pva_cons (pv_callK K F__law_take (hr.mono (by decide)) (by rfl) g__law_take k__law_take d__law_take (pva_cons (pv_var 0) (pva_cons pv_int pva_nil))) pva_nil))) (pvb_cons (pvs_set 4 sc__law_is_shaped_right.nd (pv_callK K F_shaped (hr.mono (by decide)) (by rfl) g_shaped k_shaped d_shaped (pva_cons (pv_tup (pva_cons (pv_tup (pva_cons (pv_var 3) (pva_cons (pv_var 2) pva_nil))) pva_nil)) (pva_cons (pv_var 1) pva_nil)))) (pvb_cons (pvs_if (pvt_cmp (op_eqDK K hr.units) eq_ok (pv_var 2) pv_int (nomark _)) (pvb_cons (pvs_set 5 sc__law_is_shaped_right.nd (pv_le (pv_callB (cr_sumPK K rfl) sumP_ok (by rfl) B.sum_ (by decide +kernel) (pva_cons (pv_var 1) pva_nil)) (pv_var 3))) (pvb_one (pvs_ret (pv_if (pvt_val (pv_var 5)) (pv_eqK K hr.units (pv_var 4) (pv_var 1)) (pv_isN (pv_var 4) pv_non))))) pvb_nil) (pvb_cons (pvs_asg (pv_tup (pva_cons (pv_addK K (pv_var 3) (pv_var 2)) (pva_cons pv_int (pva_cons (pv_tup pva_nil) (pva_cons pv_int pva_nil))))) (pvg_tupK K rfl (pvg_cons (pvg_name 6 sc__law_is_shaped_right.nd) (pvg_cons (pvg_name 7 sc__law_is_shaped_right.nd) (pvg_cons (pvg_name 8 sc__law_is_shaped_right.nd) (pvg_cons (pvg_name 9 sc__law_is_shaped_right.nd) pvg_nil)))))) (pvb_cons (pvs_for PassesOwn.never rfl (pvi_range1 (by rfl) B.range_ (pva_cons pv_int pva_nil)) (pvg_name 10 sc__law_is_shaped_right.nd) (pvb_one (pvs_if (PVW.pt (pvw_or (pvt_cmp op_lt lt_ok (pv_var 9) (pv_lenK K (by rfl) B.len_ (pv_var 1)) (nomark _)) (pvw_or1 (pvt_cmp op_gt gt_ok (pv_var 7) pv_int (nomark _))))) (pvb_cons (pvs_set 7 sc__law_is_shaped_right.nd (pv_addK K (pv_var 7) (pv_if (pvt_cmp op_lt lt_ok (pv_var 9) (pv_lenK K (by rfl) B.len_ (pv_var 1)) (nomark _)) (pv_ixsK K (pv_var 1) (pv_var 9) (fun _ _ => rfl)) pv_int))) (pvb_cons (pvs_set 11 sc__law_is_shaped_right.nd (pv_callB (call_min2 rfl) min2_ok (by rfl) B.min_ (by decide +kernel) (pva_cons (pv_var 7) (pva_cons (pv_var 6) pva_nil)))) (pvb_one (pvs_asg (pv_tup (pva_cons (pv_sub (pv_var 7) (pv_var 11)) (pva_cons (pv_callB (call_min2 rfl) min2_ok (by rfl) B.min_ (by decide +kernel) (pva_cons (pv_addK K (pv_var 3) (pv_var 2)) (pva_cons (pv_addK K (pv_sub (pv_var 6) (pv_var 11)) (pv_var 2)) pva_nil))) (pva_cons (pv_addK K (pv_var 8) (pv_tup (pva_cons (pv_var 11) pva_nil))) (pva_cons (pv_addK K (pv_var 9) pv_int) pva_nil))))) (pvg_tupK K rfl (pvg_cons (pvg_name 7 sc__law_is_shaped_right.nd) (pvg_cons (pvg_name 6 sc__law_is_shaped_right.nd) (pvg_cons (pvg_name 8 sc__law_is_shaped_right.nd) (pvg_cons (pvg_name 9 sc__law_is_shaped_right.nd) pvg_nil))))))))) pvb_nil))) (pvb_cons (pvs_if (PVW.pt (pvw_or (pvt_cmp (op_neDK K hr.units) ne_ok (pv_var 4) (pv_var 8) (nomark _)) (pvw_or1 (pvt_cmp (op_neDK K hr.units) ne_ok (pv_callB (cr_sumPK K rfl) sumP_ok (by rfl) B.sum_ (by decide +kernel) (pva_cons (pv_var 4) pva_nil)) (pv_callB (cr_sumPK K rfl) sumP_ok (by rfl) B.sum_ (by decide +kernel) (pva_cons (pv_var 1) pva_nil)) (nomark _))))) (pvb_one (pvs_ret pv_bl)) pvb_nil) (pvb_cons (pvs_if (PVW.pt (pvw_and (pvt_cmp op_le le_ok (pv_lenK K (by rfl) B.len_ (pv_var 4)) pv_int (nomark _)) (pvw_and1 (pvt_cmp op_le le_ok (pv_callB (cr_maxPK K rfl) maxP_ok (by rfl) B.max_ (by decide +kernel) (pva_cons (pv_addK K (pv_var 4) (pv_tup (pva_cons pv_int pva_nil))) pva_nil)) pv_int (nomark _))))) (pvb_one (pvs_ret (pv_and (pv_eqK K hr.units (pv_callK K F_fits (hr.mono (by decide)) (by rfl) g_fits k_fits d_fits (pva_cons (pv_tup (pva_cons (pv_tup (pva_cons (pv_var 3) (pva_cons (pv_var 2) pva_nil))) pva_nil)) (pva_cons (pv_var 4) pva_nil))) (pv_tup (pva_cons pv_str pva_nil))) (pv_one (pv_le (pv_callK K F_least_burst (hr.mono (by decide)) (by rfl) g_least_burst k_least_burst d_least_burst (pva_cons (pv_var 4) (pva_cons (pv_var 2) pva_nil))) (pv_var 3)))))) pvb_nil) (pvb_one (pvs_ret pv_bl)))))))))⟩
abbrev s__law_windows : Stmt := topS 54
abbrev N__law_windows : List Str := ["traffic", "found", "start", "total", "many", "much"]
theorem sc__law_windows : FnScope N__law_windows ["traffic"] (defScope s__law_windows) := ⟨rfl, rfl, rfl, by decide +kernel, rfl, by decide +kernel, by decide +kernel⟩
theorem ok__law_windows {f : Addr} {fd : FuncData} (F : Fun K "_law_windows" "_law_windows" s__law_windows f fd) (B : Bi mg) : FnOk P w K mg base CX0 1 f fd ["traffic"] (spF K 1 m__law_windows) := by
  refine def_okN 0 (sb := b__law_windows) F sc__law_windows rfl rfl rfl fun cdv A outer s H E hr => ⟨_, (pvb_cons (pvs_set 1 sc__law_windows.nd (pv_lst pva_nil)) (pvb_cons (pvs_for PassesOwn.never rfl (pvi_range1 (by rfl) B.range_ (pva_cons (pv_lenK K (by rfl) B.len_ (pv_var 0)) pva_nil)) (pvg_name 2 sc__law_windows.nd) (pvb_cons (pvs_set 3 sc__law_windows.nd pv_int) (pvb_one (pvs_for PassesOwn.never rfl (pvi_enum (by rfl) B.enumerate_ (pva_cons (pv_sliceK K (pv_var 0) (pvo_some (pv_var 2)) pvo_none) pva_nil)) (pvg_tupK K rfl (pvg_cons (pvg_name 4 sc__law_windows.nd) (pvg_cons (pvg_name 5 sc__law_windows.nd) pvg_nil))) (pvb_cons (pvs_set 3 sc__law_windows.nd (pv_addK K (pv_var 3) (pv_var 5))) (pvb_one (pvs_expr (pv_appendK K (pv_var 1) (pva_cons (pv_tup (pva_cons (pv_var 3) (pva_cons (pv_addK K (pv_var 4) pv_int) pva_nil))) pva_nil))))))))) (pvb_one (pvs_ret (pv_var 1)))))⟩
abbrev s__law_burst : Stmt := topS 55
abbrev N__law_burst : List Str := ["traffic", "rate", "much", "many"]
theorem sc__law_burst : FnScope N__law_burst ["traffic", "rate"] (defScope s__law_burst) := ⟨rfl, rfl, rfl, by decide +kernel, rfl, by decide +kernel, by decide +kernel⟩
theorem ok__law_burst {f : Addr} {fd : FuncData} (F : Fun K "_law_burst" "_law_burst" s__law_burst f fd) (B : Bi mg) (C__law_windows : Def P w K mg base "_law_windows" 1 ["traffic"] 1 m__law_windows) : FnOk P w K mg base CX0 2 f fd ["traffic", "rate"] (spF K 2 m__law_burst) := by
  obtain ⟨f__law_windows, fd__law_windows, F__law_windows, g__law_windows, k__law_windows, d__law_windows⟩ := C__law_windows
  refine def_okN 1 (sb := b__law_burst) F sc__law_burst rfl rfl rfl fun cdv A outer s H E hr => ⟨_, (pvb_one (pvs_ret (pv_callB (cr_maxK K rfl) max_ok (by rfl) B.max_ (by decide +kernel) (pva_cons (pv_addK K (pv_lst (pva_cons pv_int pva_nil)) (pv_lc (own := [("much", 2), ("many", 3)]) rfl sc__law_burst.nd (pvi_list (pv_callK K F__law_windows (hr.mono (by decide)) (by rfl) g__law_windows k__law_windows d__law_windows (pva_cons (pv_var 0) pva_nil))) (blkOk_by (own := [("much", 2), ("many", 3)]) (N := N__law_burst) (sc := defScope s__law_burst) (by decide +kernel)) (fun _ _ _ _ _ => (pvg_tupK K rfl (pvg_cons (pvg_name 2 sc__law_burst.nd) (pvg_cons (pvg_name 3 sc__law_burst.nd) pvg_nil)))) (own_tup (own_cons (own_name (by decide)) (own_cons (own_name (by decide)) own_nil))) (fun _ _ _ _ _ => pvts_nil) (fun _ _ _ _ _ => (pv_sub (pv_var 2) (pv_mulI (pv_var 1) (pv_var 3)))) s H)) pva_nil))))⟩
abbrev s__law_is_bool : Stmt := topS 52
abbrev N__law_is_bool : List Str := ["told", "due"]
theorem sc__law_is_bool : FnScope N__law_is_bool ["told", "due"] (defScope s__law_is_bool) := ⟨rfl, rfl, rfl, by decide +kernel, rfl, by decide +kernel, by decide +kernel⟩
theorem ok__law_is_bool {f : Addr} {fd : FuncData} (F : Fun K "_law_is_bool" "_law_is_bool" s__law_is_bool f fd) (B : Bi mg) : FnOk P w K mg base CX0 1 f fd ["told", "due"] (spF K 2 m__law_is_bool) := by
  refine def_okN 0 (sb := b__law_is_bool) F sc__law_is_bool rfl rfl rfl fun cdv A outer s H E hr => ⟨_, (pvb_one (pvs_ret (pv_and (pv_isiK K (cn := "bool") (pv_var 0) (by rfl) B.isinstance_ (by rfl) B.bool_ (by decide +kernel)) (pv_one (pv_eqK K hr.units (pv_var 0) (pv_var 1))))))⟩
abbrev s_is_server : Stmt := topS 23
abbrev N_is_server : List Str := ["value"]
theorem sc_is_server : FnScope N_is_server ["value"] (defScope s_is_server) := ⟨rfl, rfl, rfl, by decide +kernel, rfl, by decide +kernel, by decide +kernel⟩
theorem ok_is_server {f : Addr} {fd : FuncData} (F : Fun K "is_server" "is_server" s_is_server f fd) (B : Bi mg) (C_is_int : Def P w K mg base "is_int" 1 ["value", "low", "high"] 3 m_is_int) (I_MOST_LATE : ∃ t, mg "MOST_LATE" = some (.int 200 t)) (I_MOST_RATE : ∃ t, mg "MOST_RATE" = some (.int 100 t)) : FnOk P w K mg base CX0 2 f fd ["value"] (spF K 1 m_is_server) := by
  obtain ⟨f_is_int, fd_is_int, F_is_int, g_is_int, k_is_int, d_is_int⟩ := C_is_int
  obtain ⟨t_MOST_LATE, g_MOST_LATE⟩ := I_MOST_LATE
  obtain ⟨t_MOST_RATE, g_MOST_RATE⟩ := I_MOST_RATE
  refine def_okN 1 (sb := b_is_server) F sc_is_server rfl rfl rfl fun cdv A outer s H E hr => ⟨_, (pvb_cons (pvs_if (PVW.pt (pvw_or (pvt_not (pvt_val (pv_isiK K (cn := "tuple") (pv_var 0) (by rfl) B.isinstance_ (by rfl) B.tuple_ (by decide +kernel)))) (pvw_or1 (pvt_cmp (op_neDK K hr.units) ne_ok (pv_lenK K (by rfl) B.len_ (pv_var 0)) pv_int (nomark _))))) (pvb_one (pvs_ret pv_bl)) pvb_nil) (pvb_one (pvs_ret (pv_and (pv_callK K F_is_int (hr.mono (by decide)) (by rfl) g_is_int k_is_int d_is_int (pva_cons (pv_ixsK K (pv_var 0) pv_int (fun _ _ => rfl)) (pva_cons pv_int (pva_cons (pv_globI (by rfl) g_MOST_RATE ⟨_, rfl⟩) pva_nil)))) (pv_one (pv_callK K F_is_int (hr.mono (by decide)) (by rfl) g_is_int k_is_int d_is_int (pva_cons (pv_ixsK K (pv_var 0) pv_int (fun _ _ => rfl)) (pva_cons pv_int (pva_cons (pv_globI (by rfl) g_MOST_LATE ⟨_, rfl⟩) pva_nil)))))))))⟩
abbrev s_look_at_server : Stmt := topS 24
abbrev N_look_at_server : List Str := ["server"]
theorem sc_look_at_server : FnScope N_look_at_server ["server"] (defScope s_look_at_server) := ⟨rfl, rfl, rfl, by decide +kernel, rfl, by decide +kernel, by decide +kernel⟩
theorem ok_look_at_server {f : Addr} {fd : FuncData} (F : Fun K "look_at_server" "look_at_server" s_look_at_server f fd) (B : Bi mg) (C_is_server : Def P w K mg base "is_server" 2 ["value"] 1 m_is_server) : FnOk P w K mg base CX0 3 f fd ["server"] (spF K 1 m_look_at_server) := by
  obtain ⟨f_is_server, fd_is_server, F_is_server, g_is_server, k_is_server, d_is_server⟩ := C_is_server
  refine def_okN 2 (sb := b_look_at_server) F sc_look_at_server rfl rfl rfl fun cdv A outer s H E hr => ⟨_, (pvb_one (pvs_if (pvt_not (pvt_val (pv_callK K F_is_server (hr.mono (by decide)) (by rfl) g_is_server k_is_server d_is_server (pva_cons (pv_var 0) pva_nil)))) (pvb_one pvs_no) pvb_nil))⟩
abbrev s_told_served : Stmt := topS 29
abbrev N_told_served : List Str := ["server", "ticks"]
theorem sc_told_served : FnScope N_told_served ["server", "ticks"] (defScope s_told_served) := ⟨rfl, rfl, rfl, by decide +kernel, rfl, by decide +kernel, by decide +kernel⟩
theorem ok_told_served {f : Addr} {fd : FuncData} (F : Fun K "told_served" "told_served" s_told_served f fd) (B : Bi mg) : FnOk P w K mg base CX0 1 f fd ["server", "ticks"] (spF K 2 m_told_served) := by
  refine def_okN 0 (sb := b_told_served) F sc_told_served rfl rfl rfl fun cdv A outer s H E hr => ⟨_, (pvb_one (pvs_ret (pv_mulI (pv_ixsK K (pv_var 0) pv_int (fun _ _ => rfl)) (pv_callB (call_max2 rfl) max2_ok (by rfl) B.max_ (by decide +kernel) (pva_cons pv_int (pva_cons (pv_sub (pv_var 1) (pv_ixsK K (pv_var 0) pv_int (fun _ _ => rfl))) pva_nil))))))⟩
abbrev s_held : Stmt := topS 46
abbrev N_held : List Str := ["server", "traffic", "found", "last", "start"]
theorem sc_held : FnScope N_held ["server", "traffic"] (defScope s_held) := ⟨rfl, rfl, rfl, by decide +kernel, rfl, by decide +kernel, by decide +kernel⟩
theorem ok_held {f : Addr} {fd : FuncData} (F : Fun K "held" "held" s_held f fd) (B : Bi mg) (C_look_at_server : Def P w K mg base "look_at_server" 3 ["server"] 1 m_look_at_server) (C_look_at_traffic : Def P w K mg base "look_at_traffic" 3 ["traffic"] 1 m_look_at_traffic) (C_told_served : Def P w K mg base "told_served" 1 ["server", "ticks"] 2 m_told_served) : FnOk P w K mg base CX0 4 f fd ["server", "traffic"] (spF K 2 m_held) := by
  obtain ⟨f_look_at_server, fd_look_at_server, F_look_at_server, g_look_at_server, k_look_at_server, d_look_at_server⟩ := C_look_at_server
  obtain ⟨f_look_at_traffic, fd_look_at_traffic, F_look_at_traffic, g_look_at_traffic, k_look_at_traffic, d_look_at_traffic⟩ := C_look_at_traffic
  obtain ⟨f_told_served, fd_told_served, F_told_served, g_told_served, k_told_served, d_told_served⟩ := C_told_served
  refine def_okN 3 (sb := b_held) F sc_held rfl rfl rfl fun cdv A outer s H E hr => ⟨_, (pvb_cons (pvs_expr (pv_callK K F_look_at_server (hr.mono (by decide)) (by rfl) g_look_at_server k_look_at_server d_look_at_server (pva_cons (pv_var 0) pva_nil))) (pvb_cons (pvs_expr (pv_callK K F_look_at_traffic (hr.mono (by decide)) (by rfl) g_look_at_traffic k_look_at_traffic d_look_at_traffic (pva_cons (pv_var 1) pva_nil))) (pvb_cons (pvs_set 2 sc_held.nd pv_int) (pvb_cons (pvs_for PassesOwn.never rfl (pvi_range1 (by rfl) B.range_ (pva_cons (pv_lenK K (by rfl) B.len_ (pv_var 1)) pva_nil)) (pvg_name 3 sc_held.nd) (pvb_one (pvs_for PassesOwn.never rfl (pvi_range1 (by rfl) B.range_ (pva_cons (pv_addK K (pv_var 3) pv_int) pva_nil)) (pvg_name 4 sc_held.nd) (pvb_one (pvs_set 2 sc_held.nd (pv_callB (call_max2 rfl) max2_ok (by rfl) B.max_ (by decide +kernel) (pva_cons (pv_var 2) (pva_cons (pv_sub (pv_callB (cr_sumPK K rfl) sumP_ok (by rfl) B.sum_ (by decide +kernel) (pva_cons (pv_sliceK K (pv_var 1) (pvo_some (pv_var 4)) (pvo_some (pv_addK K (pv_var 3) pv_int))) pva_nil)) (pv_callK K F_told_served (hr.mono (by decide)) (by rfl) g_told_served k_told_served d_told_served (pva_cons (pv_var 0) (pva_cons (pv_sub (pv_var 3) (pv_var 4)) pva_nil)))) pva_nil)))))))) (pvb_one (pvs_ret (pv_var 2)))))))⟩
abbrev s_shows_fits : Stmt := topS 33
abbrev N_shows_fits : List Str := ["curve", "traffic", "value"]
theorem sc_shows_fits : FnScope N_shows_fits ["curve", "traffic", "value"] (defScope s_shows_fits) := ⟨rfl, rfl, rfl, by decide +kernel, rfl, by decide +kernel, by decide +kernel⟩
theorem ok_shows_fits {f : Addr} {fd : FuncData} (F : Fun K "shows_fits" "shows_fits" s_shows_fits f fd) (B : Bi mg) (C_look_at_curve : Def P w K mg base "look_at_curve" 3 ["curve"] 1 m_look_at_curve) (C_look_at_traffic : Def P w K mg base "look_at_traffic" 3 ["traffic"] 1 m_look_at_traffic) (C_too_much : Def P w K mg base "too_much" 2 ["curve", "traffic"] 2 m_too_much) (C_is_int : Def P w K mg base "is_int" 1 ["value", "low", "high"] 3 m_is_int) (C_told_at : Def P w K mg base "told_at" 1 ["curve", "ticks"] 2 m_told_at) (I_FITS : ∃ t, mg "FITS" = some (.str "fits" t)) (I_MORE : ∃ t, mg "MORE" = some (.str "more" t)) (I_MOST_TICKS : ∃ t, mg "MOST_TICKS" = some (.int 500 t)) (I_THREE : ∃ t, mg "THREE" = some (.int 3 t)) : FnOk P w K mg base CX0 4 f fd ["curve", "traffic", "value"] (spF K 3 m_shows_fits) := by
  obtain ⟨f_look_at_curve, fd_look_at_curve, F_look_at_curve, g_look_at_curve, k_look_at_curve, d_look_at_curve⟩ := C_look_at_curve
  obtain ⟨f_look_at_traffic, fd_look_at_traffic, F_look_at_traffic, g_look_at_traffic, k_look_at_traffic, d_look_at_traffic⟩ := C_look_at_traffic
  obtain ⟨f_too_much, fd_too_much, F_too_much, g_too_much, k_too_much, d_too_much⟩ := C_too_much
  obtain ⟨f_is_int, fd_is_int, F_is_int, g_is_int, k_is_int, d_is_int⟩ := C_is_int
  obtain ⟨f_told_at, fd_told_at, F_told_at, g_told_at, k_told_at, d_told_at⟩ := C_told_at
  obtain ⟨t_FITS, g_FITS⟩ := I_FITS
  obtain ⟨t_MORE, g_MORE⟩ := I_MORE
  obtain ⟨t_MOST_TICKS, g_MOST_TICKS⟩ := I_MOST_TICKS
  obtain ⟨t_THREE, g_THREE⟩ := I_THREE
  refine def_okN 3 (sb := b_shows_fits) F sc_shows_fits rfl rfl rfl fun cdv A outer s H E hr => ⟨_, (pvb_cons (pvs_expr (pv_callK K F_look_at_curve (hr.mono (by decide)) (by rfl) g_look_at_curve k_look_at_curve d_look_at_curve (pva_cons (pv_var 0) pva_nil))) (pvb_cons (pvs_expr (pv_callK K F_look_at_traffic (hr.mono (by decide)) (by rfl) g_look_at_traffic k_look_at_traffic d_look_at_traffic (pva_cons (pv_var 1) pva_nil))) (pvb_cons (pvs_if (PVW.pt (pvw_or (pvt_not (pvt_val (pv_isiK K (cn := "tuple") (pv_var 2) (by rfl) B.isinstance_ (by rfl) B.tuple_ (by decide +kernel)))) (pvw_or (pvt_cmp (op_notinK K) (in_ok true) (pv_lenK K (by rfl) B.len_ (pv_var 2)) (pv_tup (pva_cons pv_int (pva_cons (pv_globI (by rfl) g_THREE ⟨_, rfl⟩) pva_nil))) rfl) (pvw_or1 (pvt_not (pvt_val (pv_isiK K (cn := "str") (pv_ixsK K (pv_var 2) pv_int (fun _ _ => rfl)) (by rfl) B.isinstance_ (by rfl) B.str_ (by decide +kernel)))))))) (pvb_one (pvs_ret pv_bl)) pvb_nil) (pvb_cons (pvs_if (pvt_cmp (op_eqDK K hr.units) eq_ok (pv_lenK K (by rfl) B.len_ (pv_var 2)) pv_int (nomark _)) (pvb_one (pvs_ret (pv_and (pv_eqK K hr.units (pv_ixsK K (pv_var 2) pv_int (fun _ _ => rfl)) (pv_globS (by rfl) g_FITS ⟨_, rfl⟩)) (pv_one (pv_isN (pv_callK K F_too_much (hr.mono (by decide)) (by rfl) g_too_much k_too_much d_too_much (pva_cons (pv_var 0) (pva_cons (pv_var 1) pva_nil))) pv_non))))) pvb_nil) (pvb_cons (pvs_if (PVW.pt (pvw_or (pvt_cmp (op_neDK K hr.units) ne_ok (pv_ixsK K (pv_var 2) pv_int (fun _ _ => rfl)) (pv_globS (by rfl) g_MORE ⟨_, rfl⟩) (nomark _)) (pvw_or (pvt_not (pvt_val (pv_callK K F_is_int (hr.mono (by decide)) (by rfl) g_is_int k_is_int d_is_int (pva_cons (pv_ixsK K (pv_var 2) pv_int (fun _ _ => rfl)) (pva_cons pv_int (pva_cons (pv_globI (by rfl) g_MOST_TICKS ⟨_, rfl⟩) pva_nil)))))) (pvw_or1 (pvt_not (pvt_val (pv_callK K F_is_int (hr.mono (by decide)) (by rfl) g_is_int k_is_int d_is_int (pva_cons (pv_ixsK K (pv_var 2) pv_int (fun _ _ => rfl)) (pva_cons pv_int (pva_cons (pv_globI (by rfl) g_MOST_TICKS ⟨_, rfl⟩) pva_nil)))))))))) (pvb_one (pvs_ret pv_bl)) pvb_nil) (pvb_cons (pvs_if (pvt_cmp op_gt gt_ok (pv_addK K (pv_ixsK K (pv_var 2) pv_int (fun _ _ => rfl)) (pv_ixsK K (pv_var 2) pv_int (fun _ _ => rfl))) (pv_lenK K (by rfl) B.len_ (pv_var 1)) (nomark _)) (pvb_one (pvs_ret pv_bl)) pvb_nil) (pvb_one (pvs_ret (pv_gt (pv_callB (cr_sumPK K rfl) sumP_ok (by rfl) B.sum_ (by decide +kernel) (pva_cons (pv_sliceK K (pv_var 1) (pvo_some (pv_ixsK K (pv_var 2) pv_int (fun _ _ => rfl))) (pvo_some (pv_addK K (pv_ixsK K (pv_var 2) pv_int (fun _ _ => rfl)) (pv_ixsK K (pv_var 2) pv_int (fun _ _ => rfl))))) pva_nil)) (pv_callK K F_told_at (hr.mono (by decide)) (by rfl) g_told_at k_told_at d_told_at (pva_cons (pv_var 0) (pva_cons (pv_ixsK K (pv_var 2) pv_int (fun _ _ => rfl)) pva_nil))))))))))))⟩
abbrev s__law_is_burst_right : Stmt := topS 57
abbrev N__law_is_burst_right : List Str := ["pot", "traffic", "rate", "burst", "some", "told", "due", "other", "wide", "both", "few", "far", "much", "many", "one", "two"]
theorem sc__law_is_burst_right : FnScope N__law_is_burst_right ["pot", "traffic", "rate"] (defScope s__law_is_burst_right) := ⟨rfl, rfl, rfl, by decide +kernel, rfl, by decide +kernel, by decide +kernel⟩
theorem ok__law_is_burst_right {f : Addr} {fd : FuncData} (F : Fun K "_law_is_burst_right" "_law_is_burst_right" s__law_is_burst_right f fd) (B : Bi mg) (C__law_burst : Def P w K mg base "_law_burst" 2 ["traffic", "rate"] 2 m__law_burst) (C_least_burst : Def P w K mg base "least_burst" 4 ["traffic", "rate"] 2 m_least_burst) (C__law_of : Def P w K mg base "_law_of" 2 ["pot", "some"] 2 m__law_of) (C__law_take : Def P w K mg base "_law_take" 1 ["pot", "upto"] 2 m__law_take) (C_fits : Def P w K mg base "fits" 4 ["curve", "traffic"] 2 m_fits) (C_shows_fits : Def P w K mg base "shows_fits" 4 ["curve", "traffic", "value"] 3 m_shows_fits) (C_shaped : Def P w K mg base "shaped" 4 ["curve", "traffic"] 2 m_shaped) (C__law_is_bool : Def P w K mg base "_law_is_bool" 1 ["told", "due"] 2 m__law_is_bool) (C__law_windows : Def P w K mg base "_law_windows" 1 ["traffic"] 1 m__law_windows) (C_held : Def P w K mg base "held" 4 ["server", "traffic"] 2 m_held) (C__law_traffic : Def P w K mg base "_law_traffic" 3 ["pot"] 1 m__law_traffic) : FnOk P w K mg base CX0 5 f fd ["pot", "traffic", "rate"] (spF K 3 m__law_is_burst_right) := by
  obtain ⟨f__law_burst, fd__law_burst, F__law_burst, g__law_burst, k__law_burst, d__law_burst⟩ := C__law_burst
  obtain ⟨f_least_burst, fd_least_burst, F_least_burst, g_least_burst, k_least_burst, d_least_burst⟩ := C_least_burst
  obtain ⟨f__law_of, fd__law_of, F__law_of, g__law_of, k__law_of, d__law_of⟩ := C__law_of
  obtain ⟨f__law_take, fd__law_take, F__law_take, g__law_take, k__law_take, d__law_take⟩ := C__law_take
  obtain ⟨f_fits, fd_fits, F_fits, g_fits, k_fits, d_fits⟩ := C_fits
  obtain ⟨f_shows_fits, fd_shows_fits, F_shows_fits, g_shows_fits, k_shows_fits, d_shows_fits⟩ := C_shows_fits
  obtain ⟨f_shaped, fd_shaped, F_shaped, g_shaped, k_shaped, d_shaped⟩ := C_shaped
  obtain ⟨f__law_is_bool, fd__law_is_bool, F__law_is_bool, g__law_is_bool, k__law_is_bool, d__law_is_bool⟩ := C__law_is_bool
  obtain ⟨f__law_windows, fd__law_windows, F__law_windows, g__law_windows, k__law_windows, d__law_windows⟩ := C__law_windows
  obtain ⟨f_held, fd_held, F_held, g_held, k_held, d_held⟩ := C_held
  obtain ⟨f__law_traffic, fd__law_traffic, F__law_traffic, g__law_traffic, k__law_traffic, d__law_traffic⟩ := C__law_traffic
  refine def_okN 4 (sb := b__law_is_burst_right) F sc__law_is_burst_right rfl rfl rfl fun cdv A outer s H E hr => ⟨_, (pvb_cons (pvs_set 3 sc__law_is_burst_right.nd (pv_callK K F__law_burst (hr.mono (by decide)) (by rfl) g__law_burst k__law_burst d__law_burst (pva_cons (pv_var 1) (pva_cons (pv_var 2) pva_nil)))) (pvb_cons (pvs_if (PVW.pt (pvw_or (pvt_cmp (op_neDK K hr.units) ne_ok (pv_callK K F_least_burst (hr.mono (by decide)) (by rfl) g_least_burst k_least_burst d_least_burst (pva_cons (pv_var 1) (pva_cons (pv_var 2) pva_nil))) (pv_var 3) (nomark _)) (pvw_or1 (pvt_cmp (op_neDK K hr.units) ne_ok (pv_callK K F_least_burst (hr.mono (by decide)) (by rfl) g_least_burst k_least_burst d_least_burst (pva_cons (pv_revPK K (pv_var 1)) (pva_cons (pv_var 2) pva_nil))) (pv_var 3) (nomark _))))) (pvb_one (pvs_ret pv_bl)) pvb_nil) (pvb_cons (pvs_set 4 sc__law_is_burst_right.nd (pv_callK K F__law_of (hr.mono (by decide)) (by rfl) g__law_of k__law_of d__law_of (pva_cons (pv_var 0) (pva_cons (pv_lst (pva_cons (pv_var 3) (pva_cons (pv_callB (call_max2 rfl) max2_ok (by rfl) B.max_ (by decide +kernel) (pva_cons pv_int (pva_cons (pv_sub (pv_var 3) pv_int) pva_nil))) (pva_cons (pv_addK K (pv_var 3) pv_int) (pva_cons (pv_callTy call_int1 int_ok (by rfl) B.int_ (by decide +kernel) (pva_cons (pv_callK K F__law_take (hr.mono (by decide)) (by rfl) g__law_take k__law_take d__law_take (pva_cons (pv_var 0) (pva_cons pv_int pva_nil))) pva_nil)) pva_nil))))) pva_nil)))) (pvb_cons (pvs_if (pvt_cmp op_le le_ok (pv_var 4) pv_int (nomark _)) (pvb_cons (pvs_set 5 sc__law_is_burst_right.nd (pv_callK K F_fits (hr.mono (by decide)) (by rfl) g_fits k_fits d_fits (pva_cons (pv_tup (pva_cons (pv_tup (pva_cons (pv_var 4) (pva_cons (pv_var 2) pva_nil))) pva_nil)) (pva_cons (pv_var 1) pva_nil)))) (pvb_cons (pvs_if (PVW.pt (pvw_or (pvt_cmp (op_neDK K hr.units) ne_ok (pv_eqK K hr.units (pv_var 5) (pv_tup (pva_cons pv_str pva_nil))) (pv_ge (pv_var 4) (pv_var 3)) (nomark _)) (pvw_or1 (pvt_cmp op_notBl notB_ok (pv_callK K F_shows_fits (hr.mono (by decide)) (by rfl) g_shows_fits k_shows_fits d_shows_fits (pva_cons (pv_tup (pva_cons (pv_tup (pva_cons (pv_var 4) (pva_cons (pv_var 2) pva_nil))) pva_nil)) (pva_cons (pv_var 1) (pva_cons (pv_var 5) pva_nil)))) pv_bl (nomark _))))) (pvb_one (pvs_ret pv_bl)) pvb_nil) (pvb_cons (pvs_if (PVW.pt (pvw_and (pvt_cmp op_ge ge_ok (pv_var 4) (pv_var 3) (nomark _)) (pvw_and1 (pvt_cmp (op_neDK K hr.units) ne_ok (pv_callK K F_shaped (hr.mono (by decide)) (by rfl) g_shaped k_shaped d_shaped (pva_cons (pv_tup (pva_cons (pv_tup (pva_cons (pv_var 4) (pva_cons (pv_var 2) pva_nil))) pva_nil)) (pva_cons (pv_var 1) pva_nil))) (pv_var 1) (nomark _))))) (pvb_one (pvs_ret pv_bl)) pvb_nil) (pvb_one (pvs_if (pvt_not (pvt_val (pv_callK K F__law_is_bool (hr.mono (by decide)) (by rfl) g__law_is_bool k__law_is_bool d__law_is_bool (pva_cons (pv_callK K F_shows_fits (hr.mono (by decide)) (by rfl) g_shows_fits k_shows_fits d_shows_fits (pva_cons (pv_tup (pva_cons (pv_tup (pva_cons (pv_var 4) (pva_cons (pv_var 2) pva_nil))) pva_nil)) (pva_cons (pv_var 1) (pva_cons (pv_tup (pva_cons pv_str pva_nil)) pva_nil)))) (pva_cons (pv_ge (pv_var 4) (pv_var 3)) pva_nil))))) (pvb_one (pvs_ret pv_bl)) pvb_nil))))) pvb_nil) (pvb_cons (pvs_set 6 sc__law_is_burst_right.nd (pv_callB (cr_maxK K rfl) max_ok (by rfl) B.max_ (by decide +kernel) (pva_cons (pv_addK K (pv_lst (pva_cons pv_int pva_nil)) (pv_lc (own := [("much", 12), ("many", 13)]) rfl sc__law_is_burst_right.nd (pvi_list (pv_callK K F__law_windows (hr.mono (by decide)) (by rfl) g__law_windows k__law_windows d__law_windows (pva_cons (pv_var 1) pva_nil))) (blkOk_by (own := [("much", 12), ("many", 13)]) (N := N__law_is_burst_right) (sc := defScope s__law_is_burst_right) (by decide +kernel)) (fun _ _ _ _ _ => (pvg_tupK K rfl (pvg_cons (pvg_name 12 sc__law_is_burst_right.nd) (pvg_cons (pvg_name 13 sc__law_is_burst_right.nd) pvg_nil)))) (own_tup (own_cons (own_name (by decide)) (own_cons (own_name (by decide)) own_nil))) (fun _ _ _ _ _ => pvts_nil) (fun _ _ _ _ _ => (pv_sub (pv_var 12) (pv_mulI (pv_var 2) (pv_sub (pv_var 13) pv_int)))) s H)) pva_nil))) (pvb_cons (pvs_if (PVW.pt (pvw_or (pvt_cmp (op_neDK K hr.units) ne_ok (pv_callK K F_held (hr.mono (by decide)) (by rfl) g_held k_held d_held (pva_cons (pv_tup (pva_cons (pv_var 2) (pva_cons pv_int pva_nil))) (pva_cons (pv_var 1) pva_nil))) (pv_var 6) (nomark _)) (pvw_or1 (PVW.pt (pvw_and (pvt_cmp op_ge ge_ok (pv_var 6) (pv_var 2) (nomark _)) (pvw_and (pvt_cmp (op_neDK K hr.units) ne_ok (pv_var 6) (pv_addK K (pv_var 3) (pv_var 2)) (nomark _)) (pvw_and1 (pvt_cmp (op_neDK K hr.units) ne_ok (pv_var 1) (pv_tup pva_nil) (nomark _))))))))) (pvb_one (pvs_ret pv_bl)) pvb_nil) (pvb_cons (pvs_set 7 sc__law_is_burst_right.nd (pv_callK K F__law_traffic (hr.mono (by decide)) (by rfl) g__law_traffic k__law_traffic d__law_traffic (pva_cons (pv_var 0) pva_nil))) (pvb_cons (pvs_set 8 sc__law_is_burst_right.nd (pv_mulPK K (pv_tup (pva_cons pv_int pva_nil)) (pv_if (pvt_cmp op_gt gt_ok (pv_var 2) pv_int (nomark _)) (pv_addK K (pv_var 3) pv_int) pv_int))) (pvb_cons (pvs_if (PVW.pt (pvw_and (pvt_cmp op_gt gt_ok (pv_var 2) pv_int (nomark _)) (pvw_and1 (pvt_cmp op_le le_ok (pv_addK K (pv_addK K (pv_lenK K (by rfl) B.len_ (pv_var 1)) (pv_lenK K (by rfl) B.len_ (pv_var 8))) (pv_lenK K (by rfl) B.len_ (pv_var 7))) pv_int (nomark _))))) (pvb_one (pvs_if (pvt_cmp (op_neDK K hr.units) ne_ok (pv_callK K F_least_burst (hr.mono (by decide)) (by rfl) g_least_burst k_least_burst d_least_burst (pva_cons (pv_addK K (pv_addK K (pv_var 1) (pv_var 8)) (pv_var 7)) (pva_cons (pv_var 2) pva_nil))) (pv_callB (call_max2 rfl) max2_ok (by rfl) B.max_ (by decide +kernel) (pva_cons (pv_var 3) (pva_cons (pv_callK K F__law_burst (hr.mono (by decide)) (by rfl) g__law_burst k__law_burst d__law_burst (pva_cons (pv_var 7) (pva_cons (pv_var 2) pva_nil))) pva_nil))) (nomark _)) (pvb_one (pvs_ret pv_bl)) pvb_nil)) pvb_nil) (pvb_cons (pvs_set 9 sc__law_is_burst_right.nd (pv_callTy (cr_tupleK K) tuple_ok (by rfl) B.tuple_ (by decide +kernel) (pva_cons (pv_lc (own := [("one", 14), ("two", 15)]) rfl sc__law_is_burst_right.nd (pvi_zip (by rfl) B.zip_ (pva_cons (pv_var 1) (pva_cons (pv_var 7) pva_nil))) (blkOk_by (own := [("one", 14), ("two", 15)]) (N := N__law_is_burst_right) (sc := defScope s__law_is_burst_right) (by decide +kernel)) (fun _ _ _ _ _ => (pvg_tupK K rfl (pvg_cons (pvg_name 14 sc__law_is_burst_right.nd) (pvg_cons (pvg_name 15 sc__law_is_burst_right.nd) pvg_nil)))) (own_tup (own_cons (own_name (by decide)) (own_cons (own_name (by decide)) own_nil))) (fun _ _ _ _ _ => pvts_nil) (fun _ _ _ _ _ => (pv_addK K (pv_var 14) (pv_var 15))) s H) pva_nil))) (pvb_cons (pvs_set 10 sc__law_is_burst_right.nd (pv_callB (call_min2 rfl) min2_ok (by rfl) B.min_ (by decide +kernel) (pva_cons (pv_lenK K (by rfl) B.len_ (pv_var 1)) (pva_cons (pv_lenK K (by rfl) B.len_ (pv_var 7)) pva_nil)))) (pvb_cons (pvs_set 11 sc__law_is_burst_right.nd (pv_addK K (pv_callK K F_least_burst (hr.mono (by decide)) (by rfl) g_least_burst k_least_burst d_least_burst (pva_cons (pv_sliceK K (pv_var 1) pvo_none (pvo_some (pv_var 10))) (pva_cons (pv_var 2) pva_nil))) (pv_callK K F_least_burst (hr.mono (by decide)) (by rfl) g_least_burst k_least_burst d_least_burst (pva_cons (pv_sliceK K (pv_var 7) pvo_none (pvo_some (pv_var 10))) (pva_cons (pv_var 2) pva_nil))))) (pvb_one (pvs_ret (pv_or (pv_gt (pv_callB (cr_maxPK K rfl) maxP_ok (by rfl) B.max_ (by decide +kernel) (pva_cons (pv_addK K (pv_var 9) (pv_tup (pva_cons pv_int pva_nil))) pva_nil)) pv_int) (pv_one (pv_le (pv_callK K F_least_burst (hr.mono (by decide)) (by rfl) g_least_burst k_least_burst d_least_burst (pva_cons (pv_var 9) (pva_cons (pv_callB (call_min2 rfl) min2_ok (by rfl) B.min_ (by decide +kernel) (pva_cons pv_int (pva_cons (pv_mulI pv_int (pv_var 2)) pva_nil))) pva_nil))) (pv_var 11))))))))))))))))))⟩
abbrev s__law_late : Stmt := topS 56
abbrev N__law_late : List Str := ["server", "traffic", "found", "last", "much", "start", "need"]
theorem sc__law_late : FnScope N__law_late ["server", "traffic"] (defScope s__law_late) := ⟨rfl, rfl, rfl, by decide +kernel, rfl, by decide +kernel, by decide +kernel⟩
theorem ok__law_late {f : Addr} {fd : FuncData} (F : Fun K "_law_late" "_law_late" s__law_late f fd) (B : Bi mg) : FnOk P w K mg base CX0 1 f fd ["server", "traffic"] (spF K 2 m__law_late) := by
  refine def_okN 0 (sb := b__law_late) F sc__law_late rfl rfl rfl fun cdv A outer s H E hr => ⟨_, (pvb_cons (pvs_set 2 sc__law_late.nd pv_int) (pvb_cons (pvs_for PassesOwn.never rfl (pvi_enum (by rfl) B.enumerate_ (pva_cons (pv_var 1) pva_nil)) (pvg_tupK K rfl (pvg_cons (pvg_name 3 sc__law_late.nd) (pvg_cons (pvg_name 4 sc__law_late.nd) pvg_nil))) (pvb_one (pvs_if (pvt_cmp op_gt gt_ok (pv_var 4) pv_int (nomark _)) (pvb_one (pvs_for PassesOwn.never rfl (pvi_range1 (by rfl) B.range_ (pva_cons (pv_addK K (pv_var 3) pv_int) pva_nil)) (pvg_name 5 sc__law_late.nd) (pvb_cons (pvs_set 6 sc__law_late.nd (pv_callB (cr_sumPK K rfl) sumP_ok (by rfl) B.sum_ (by decide +kernel) (pva_cons (pv_sliceK K (pv_var 1) (pvo_some (pv_var 5)) (pvo_some (pv_addK K (pv_var 3) pv_int))) pva_nil))) (pvb_one (pvs_set 2 sc__law_late.nd (pv_callB (call_max2 rfl) max2_ok (by rfl) B.max_ (by decide +kernel) (pva_cons (pv_var 2) (pva_cons (pv_sub (pv_addK K (pv_ixsK K (pv_var 0) pv_int (fun _ _ => rfl)) (pv_neg (pv_div (pv_neg (pv_var 6)) (pv_ixsK K (pv_var 0) pv_int (fun _ _ => rfl))))) (pv_addK K (pv_sub (pv_var 3) (pv_var 5)) pv_int)) pva_nil)))))))) pvb_nil))) (pvb_one (pvs_ret (pv_var 2)))))⟩
abbrev s_late_by : Stmt := topS 39
abbrev N_late_by : List Str := ["server", "need", "ticks"]
theorem sc_late_by : FnScope N_late_by ["server", "need", "ticks"] (defScope s_late_by) := ⟨rfl, rfl, rfl, by decide +kernel, rfl, by decide +kernel, by decide +kernel⟩
theorem ok_late_by {f : Addr} {fd : FuncData} (F : Fun K "late_by" "late_by" s_late_by f fd) (B : Bi mg) : FnOk P w K mg base CX0 1 f fd ["server", "need", "ticks"] (spF K 3 m_late_by) := by
  refine def_okN 0 (sb := b_late_by) F sc_late_by rfl rfl rfl fun cdv A outer s H E hr => ⟨_, (pvb_one (pvs_ret (pv_sub (pv_addK K (pv_ixsK K (pv_var 0) pv_int (fun _ _ => rfl)) (pv_neg (pv_div (pv_neg (pv_var 1)) (pv_ixsK K (pv_var 0) pv_int (fun _ _ => rfl))))) (pv_var 2))))⟩
abbrev s_ticks_of : Stmt := topS 40
abbrev N_ticks_of : List Str := ["curve", "found", "at", "one", "other", "bend", "tick"]
theorem sc_ticks_of : FnScope N_ticks_of ["curve"] (defScope s_ticks_of) := ⟨rfl, rfl, rfl, by decide +kernel, rfl, by decide +kernel, by decide +kernel⟩
theorem ok_ticks_of {f : Addr} {fd : FuncData} (F : Fun K "ticks_of" "ticks_of" s_ticks_of f fd) (B : Bi mg) : FnOk P w K mg base CX0 1 f fd ["curve"] (spF K 1 m_ticks_of) := by
  refine def_okN 0 (sb := b_ticks_of) F sc_ticks_of rfl rfl rfl fun cdv A outer s H E hr => ⟨_, (pvb_cons (pvs_set 1 sc_ticks_of.nd (pv_disp1 pv_int pv_bl)) (pvb_cons (pvs_for PassesOwn.never rfl (pvi_enum (by rfl) B.enumerate_ (pva_cons (pv_var 0) pva_nil)) (pvg_tupK K rfl (pvg_cons (pvg_name 2 sc_ticks_of.nd) (pvg_cons (pvg_name 3 sc_ticks_of.nd) pvg_nil))) (pvb_one (pvs_for PassesOwn.never rfl (pvi_tup (pv_sliceK K (pv_var 0) (pvo_some (pv_addK K (pv_var 2) pv_int)) pvo_none)) (pvg_name 4 sc_ticks_of.nd) (pvb_cons (pvs_set 5 sc_ticks_of.nd (pv_div (pv_sub (pv_ixsK K (pv_var 4) pv_int (fun _ _ => rfl)) (pv_ixsK K (pv_var 3) pv_int (fun _ _ => rfl))) (pv_sub (pv_ixsK K (pv_var 3) pv_int (fun _ _ => rfl)) (pv_ixsK K (pv_var 4) pv_int (fun _ _ => rfl))))) (pvb_one (pvs_for PassesOwn.never rfl (pvi_tup (pv_tup (pva_cons (pv_var 5) (pva_cons (pv_addK K (pv_var 5) pv_int) pva_nil)))) (pvg_name 6 sc_ticks_of.nd) (pvb_one (pvs_dput (hu_of hr) (pv_var 1) (pv_callB (call_max2 rfl) max2_ok (by rfl) B.max_ (by decide +kernel) (pva_cons pv_int (pva_cons (pv_var 6) pva_nil))) pv_bl)))))))) (pvb_one (pvs_ret (pv_callB (cr_sortedKK K rfl) sortedK_ok (by rfl) B.sorted_ (by decide +kernel) (pva_cons (pv_var 1) pva_nil))))))⟩
abbrev s_told_late : Stmt := topS 38
abbrev N_told_late : List Str := ["curve", "server", "ticks"]
theorem sc_told_late : FnScope N_told_late ["curve", "server"] (defScope s_told_late) := ⟨rfl, rfl, rfl, by decide +kernel, rfl, by decide +kernel, by decide +kernel⟩
theorem ok_told_late {f : Addr} {fd : FuncData} (F : Fun K "told_late" "told_late" s_told_late f fd) (B : Bi mg) (C_told_at : Def P w K mg base "told_at" 1 ["curve", "ticks"] 2 m_told_at) (C_ticks_of : Def P w K mg base "ticks_of" 1 ["curve"] 1 m_ticks_of) (C_late_by : Def P w K mg base "late_by" 1 ["server", "need", "ticks"] 3 m_late_by) : FnOk P w K mg base CX0 2 f fd ["curve", "server"] (spF K 2 m_told_late) := by
  obtain ⟨f_told_at, fd_told_at, F_told_at, g_told_at, k_told_at, d_told_at⟩ := C_told_at
  obtain ⟨f_ticks_of, fd_ticks_of, F_ticks_of, g_ticks_of, k_ticks_of, d_ticks_of⟩ := C_ticks_of
  obtain ⟨f_late_by, fd_late_by, F_late_by, g_late_by, k_late_by, d_late_by⟩ := C_late_by
  refine def_okN 1 (sb := b_told_late) F sc_told_late rfl rfl rfl fun cdv A outer s H E hr => ⟨_, (pvb_cons (pvs_if (pvt_cmp (op_eqDK K hr.units) eq_ok (pv_callK K F_told_at (hr.mono (by decide)) (by rfl) g_told_at k_told_at d_told_at (pva_cons (pv_var 0) (pva_cons pv_int pva_nil))) pv_int (nomark _)) (pvb_one (pvs_ret pv_int)) pvb_nil) (pvb_cons (pvs_if (PVW.pt (pvw_or (pvt_cmp (op_eqDK K hr.units) eq_ok (pv_ixsK K (pv_var 1) pv_int (fun _ _ => rfl)) pv_int (nomark _)) (pvw_or1 (pvt_cmp op_gt gt_ok (pv_ixsK K (pv_ixsK K (pv_var 0) (pv_neg pv_int) (fun _ _ => rfl)) pv_int (fun _ _ => rfl)) (pv_ixsK K (pv_var 1) pv_int (fun _ _ => rfl)) (nomark _))))) (pvb_one (pvs_ret pv_non)) pvb_nil) (pvb_one (pvs_ret (pv_callB (cr_maxK K rfl) max_ok (by rfl) B.max_ (by decide +kernel) (pva_cons (pv_lst (pva_cons pv_int (pva_star (pv_lc (own := [("ticks", 2)]) rfl sc_told_late.nd (pvi_list (pv_callK K F_ticks_of (hr.mono (by decide)) (by rfl) g_ticks_of k_ticks_of d_ticks_of (pva_cons (pv_var 0) pva_nil))) (blkOk_by (own := [("ticks", 2)]) (N := N_told_late) (sc := defScope s_told_late) (by decide +kernel)) (fun _ _ _ _ _ => (pvg_name 2 sc_told_late.nd)) (own_name (by decide)) (fun _ _ _ _ _ => pvts_nil) (fun _ _ _ _ _ => (pv_callK K F_late_by (hr.mono (by decide)) (by rfl) g_late_by k_late_by d_late_by (pva_cons (pv_var 1) (pva_cons (pv_callK K F_told_at (hr.mono (by decide)) (by rfl) g_told_at k_told_at d_told_at (pva_cons (pv_var 0) (pva_cons (pv_var 2) pva_nil))) (pva_cons (pv_var 2) pva_nil))))) s H) pva_nil))) pva_nil))))))⟩
abbrev s_greatest : Stmt := topS 42
abbrev N_greatest : List Str := ["curve", "ticks", "tick"]
theorem sc_greatest : FnScope N_greatest ["curve", "ticks"] (defScope s_greatest) := ⟨rfl, rfl, rfl, by decide +kernel, rfl, by decide +kernel, by decide +kernel⟩
theorem ok_greatest {f : Addr} {fd : FuncData} (F : Fun K "greatest" "greatest" s_greatest f fd) (B : Bi mg) (C_told_at : Def P w K mg base "told_at" 1 ["curve", "ticks"] 2 m_told_at) : FnOk P w K mg base CX0 2 f fd ["curve", "ticks"] (spF K 2 m_greatest) := by
  obtain ⟨f_told_at, fd_told_at, F_told_at, g_told_at, k_told_at, d_told_at⟩ := C_told_at
  refine def_okN 1 (sb := b_greatest) F sc_greatest rfl rfl rfl fun cdv A outer s H E hr => ⟨_, (pvb_one (pvs_ret (pv_callTy (cr_tupleK K) tuple_ok (by rfl) B.tuple_ (by decide +kernel) (pva_cons (pv_lc (own := [("tick", 2)]) rfl sc_greatest.nd (pvi_range1 (by rfl) B.range_ (pva_cons (pv_var 1) pva_nil)) (blkOk_by (own := [("tick", 2)]) (N := N_greatest) (sc := defScope s_greatest) (by decide +kernel)) (fun _ _ _ _ _ => (pvg_name 2 sc_greatest.nd)) (own_name (by decide)) (fun _ _ _ _ _ => pvts_nil) (fun _ _ _ _ _ => (pv_sub (pv_callK K F_told_at (hr.mono (by decide)) (by rfl) g_told_at k_told_at d_told_at (pva_cons (pv_var 0) (pva_cons (pv_addK K (pv_var 2) pv_int) pva_nil))) (pv_callK K F_told_at (hr.mono (by decide)) (by rfl) g_told_at k_told_at d_told_at (pva_cons (pv_var 0) (pva_cons (pv_var 2) pva_nil))))) s H) pva_nil))))⟩
abbrev s_late_most : Stmt := topS 41
abbrev N_late_most : List Str := ["curve", "server", "told", "some", "ticks"]
theorem sc_late_most : FnScope N_late_most ["curve", "server"] (defScope s_late_most) := ⟨rfl, rfl, rfl, by decide +kernel, rfl, by decide +kernel, by decide +kernel⟩
theorem ok_late_most {f : Addr} {fd : FuncData} (F : Fun K "late_most" "late_most" s_late_most f fd) (B : Bi mg) (C_look_at_curve : Def P w K mg base "look_at_curve" 3 ["curve"] 1 m_look_at_curve) (C_look_at_server : Def P w K mg base "look_at_server" 3 ["server"] 1 m_look_at_server) (C_told_late : Def P w K mg base "told_late" 2 ["curve", "server"] 2 m_told_late) (C_ticks_of : Def P w K mg base "ticks_of" 1 ["curve"] 1 m_ticks_of) (C_late_by : Def P w K mg base "late_by" 1 ["server", "need", "ticks"] 3 m_late_by) (C_told_at : Def P w K mg base "told_at" 1 ["curve", "ticks"] 2 m_told_at) (C_greatest : Def P w K mg base "greatest" 2 ["curve", "ticks"] 2 m_greatest) (I_LATE : ∃ t, mg "LATE" = some (.str "late" t)) (I_NEVER : ∃ t, mg "NEVER" = some (.str "never" t)) : FnOk P w K mg base CX0 4 f fd ["curve", "server"] (spF K 2 m_late_most) := by
  obtain ⟨f_look_at_curve, fd_look_at_curve, F_look_at_curve, g_look_at_curve, k_look_at_curve, d_look_at_curve⟩ := C_look_at_curve
  obtain ⟨f_look_at_server, fd_look_at_server, F_look_at_server, g_look_at_server, k_look_at_server, d_look_at_server⟩ := C_look_at_server
  obtain ⟨f_told_late, fd_told_late, F_told_late, g_told_late, k_told_late, d_told_late⟩ := C_told_late
  obtain ⟨f_ticks_of, fd_ticks_of, F_ticks_of, g_ticks_of, k_ticks_of, d_ticks_of⟩ := C_ticks_of
  obtain ⟨f_late_by, fd_late_by, F_late_by, g_late_by, k_late_by, d_late_by⟩ := C_late_by
  obtain ⟨f_told_at, fd_told_at, F_told_at, g_told_at, k_told_at, d_told_at⟩ := C_told_at
  obtain ⟨f_greatest, fd_greatest, F_greatest, g_greatest, k_greatest, d_greatest⟩ := C_greatest
  obtain ⟨t_LATE, g_LATE⟩ := I_LATE
  obtain ⟨t_NEVER, g_NEVER⟩ := I_NEVER
  refine def_okN 3 (sb := b_late_most) F sc_late_most rfl rfl rfl fun cdv A outer s H E hr => ⟨_, (pvb_cons (pvs_expr (pv_callK K F_look_at_curve (hr.mono (by decide)) (by rfl) g_look_at_curve k_look_at_curve d_look_at_curve (pva_cons (pv_var 0) pva_nil))) (pvb_cons (pvs_expr (pv_callK K F_look_at_server (hr.mono (by decide)) (by rfl) g_look_at_server k_look_at_server d_look_at_server (pva_cons (pv_var 1) pva_nil))) (pvb_cons (pvs_set 2 sc_late_most.nd (pv_callK K F_told_late (hr.mono (by decide)) (by rfl) g_told_late k_told_late d_told_late (pva_cons (pv_var 0) (pva_cons (pv_var 1) pva_nil))) (hx := Or.inr rfl)) (pvb_cons (pvs_if (pvt_cmp op_isN isN_ok (pv_var 2) pv_non (nomark _)) (pvb_one (pvs_ret (pv_tup (pva_cons (pv_globS (by rfl) g_NEVER ⟨_, rfl⟩) pva_nil)))) pvb_nil) (pvb_cons (pvs_if (pvt_cmp (op_eqDK K hr.units) eq_ok (pv_var 2) pv_int (nomark _)) (pvb_one (pvs_ret (pv_tup (pva_cons (pv_globS (by rfl) g_LATE ⟨_, rfl⟩) (pva_cons pv_int (pva_cons (pv_tup pva_nil) pva_nil)))))) pvb_nil) (pvb_cons (pvs_setLc (own := [("ticks", 4)]) 3 rfl sc_late_most.nd rfl rfl (pvi_list (pv_callK K F_ticks_of (hr.mono (by decide)) (by rfl) g_ticks_of k_ticks_of d_ticks_of (pva_cons (pv_var 0) pva_nil))) (blkOk_by (own := [("ticks", 4)]) (N := N_late_most) (sc := defScope s_late_most) (by decide +kernel)) (fun _ _ _ _ _ => (pvg_name 4 sc_late_most.nd)) (own_name (by decide)) (fun _ _ _ _ _ => (pvts_one (pvt_cmp (op_eqDK K hr.units) eq_ok (pv_callK K F_late_by (hr.mono (by decide)) (by rfl) g_late_by k_late_by d_late_by (pva_cons (pv_var 1) (pva_cons (pv_callK K F_told_at (hr.mono (by decide)) (by rfl) g_told_at k_told_at d_told_at (pva_cons (pv_var 0) (pva_cons (pv_var 4) pva_nil))) (pva_cons (pv_var 4) pva_nil)))) (pv_var 2) (nomark _)))) (fun _ _ _ _ _ => (pv_var 4)) s H) (pvb_one (pvs_ret (pv_tup (pva_cons (pv_globS (by rfl) g_LATE ⟨_, rfl⟩) (pva_cons (pv_var 2) (pva_cons (pv_callK K F_greatest (hr.mono (by decide)) (by rfl) g_greatest k_greatest d_greatest (pva_cons (pv_var 0) (pva_cons (pv_ixsK K (pv_var 3) pv_int (fun _ _ => rfl)) pva_nil))) pva_nil))))))))))))⟩
abbrev s_told_passed : Stmt := topS 43
abbrev N_told_passed : List Str := ["server", "traffic", "found", "last", "ends", "start", "need"]
theorem sc_told_passed : FnScope N_told_passed ["server", "traffic"] (defScope s_told_passed) := ⟨rfl, rfl, rfl, by decide +kernel, rfl, by decide +kernel, by decide +kernel⟩
theorem ok_told_passed {f : Addr} {fd : FuncData} (F : Fun K "told_passed" "told_passed" s_told_passed f fd) (B : Bi mg) (C_late_by : Def P w K mg base "late_by" 1 ["server", "need", "ticks"] 3 m_late_by) : FnOk P w K mg base CX0 2 f fd ["server", "traffic"] (spF K 2 m_told_passed) := by
  obtain ⟨f_late_by, fd_late_by, F_late_by, g_late_by, k_late_by, d_late_by⟩ := C_late_by
  refine def_okN 1 (sb := b_told_passed) F sc_told_passed rfl rfl rfl fun cdv A outer s H E hr => ⟨_, (pvb_cons (pvs_set 2 sc_told_passed.nd (pv_lst pva_nil)) (pvb_cons (pvs_for PassesOwn.never rfl (pvi_range1 (by rfl) B.range_ (pva_cons (pv_lenK K (by rfl) B.len_ (pv_var 1)) pva_nil)) (pvg_name 3 sc_told_passed.nd) (pvb_cons (pvs_set 4 sc_told_passed.nd (pv_lst (pva_cons (pv_var 3) pva_nil))) (pvb_cons (pvs_for PassesOwn.never rfl (pvi_range1 (by rfl) B.range_ (pva_cons (pv_addK K (pv_var 3) pv_int) pva_nil)) (pvg_name 5 sc_told_passed.nd) (pvb_cons (pvs_set 6 sc_told_passed.nd (pv_callB (cr_sumPK K rfl) sumP_ok (by rfl) B.sum_ (by decide +kernel) (pva_cons (pv_sliceK K (pv_var 1) (pvo_some (pv_var 5)) (pvo_some (pv_addK K (pv_var 3) pv_int))) pva_nil))) (pvb_one (pvs_if (pvt_cmp op_gt gt_ok (pv_var 6) pv_int (nomark _)) (pvb_one (pvs_expr (pv_appendK K (pv_var 4) (pva_cons (pv_addK K (pv_var 3) (pv_callK K F_late_by (hr.mono (by decide)) (by rfl) g_late_by k_late_by d_late_by (pva_cons (pv_var 0) (pva_cons (pv_var 6) (pva_cons (pv_addK K (pv_sub (pv_var 3) (pv_var 5)) pv_int) pva_nil))))) pva_nil)))) pvb_nil)))) (pvb_one (pvs_expr (pv_appendK K (pv_var 2) (pva_cons (pv_callB (cr_maxK K rfl) max_ok (by rfl) B.max_ (by decide +kernel) (pva_cons (pv_var 4) pva_nil)) pva_nil))))))) (pvb_one (pvs_ret (pv_var 2)))))⟩
abbrev s_lateness : Stmt := topS 44
abbrev N_lateness : List Str := ["server", "traffic", "last", "end"]
theorem sc_lateness : FnScope N_lateness ["server", "traffic"] (defScope s_lateness) := ⟨rfl, rfl, rfl, by decide +kernel, rfl, by decide +kernel, by decide +kernel⟩
theorem ok_lateness {f : Addr} {fd : FuncData} (F : Fun K "lateness" "lateness" s_lateness f fd) (B : Bi mg) (C_look_at_server : Def P w K mg base "look_at_server" 3 ["server"] 1 m_look_at_server) (C_look_at_traffic : Def P w K mg base "look_at_traffic" 3 ["traffic"] 1 m_look_at_traffic) (C_told_passed : Def P w K mg base "told_passed" 2 ["server", "traffic"] 2 m_told_passed) : FnOk P w K mg base CX0 4 f fd ["server", "traffic"] (spF K 2 m_lateness) := by
  obtain ⟨f_look_at_server, fd_look_at_server, F_look_at_server, g_look_at_server, k_look_at_server, d_look_at_server⟩ := C_look_at_server
  obtain ⟨f_look_at_traffic, fd_look_at_traffic, F_look_at_traffic, g_look_at_traffic, k_look_at_traffic, d_look_at_traffic⟩ := C_look_at_traffic
  obtain ⟨f_told_passed, fd_told_passed, F_told_passed, g_told_passed, k_told_passed, d_told_passed⟩ := C_told_passed
  refine def_okN 3 (sb := b_lateness) F sc_lateness rfl rfl rfl fun cdv A outer s H E hr => ⟨_, (pvb_cons (pvs_expr (pv_callK K F_look_at_server (hr.mono (by decide)) (by rfl) g_look_at_server k_look_at_server d_look_at_server (pva_cons (pv_var 0) pva_nil))) (pvb_cons (pvs_expr (pv_callK K F_look_at_traffic (hr.mono (by decide)) (by rfl) g_look_at_traffic k_look_at_traffic d_look_at_traffic (pva_cons (pv_var 1) pva_nil))) (pvb_cons (pvs_if (pvt_cmp (op_eqDK K hr.units) eq_ok (pv_ixsK K (pv_var 0) pv_int (fun _ _ => rfl)) pv_int (nomark _)) (pvb_one (pvs_ret (pv_if (pvt_cmp op_gt gt_ok (pv_callB (cr_sumPK K rfl) sumP_ok (by rfl) B.sum_ (by decide +kernel) (pva_cons (pv_var 1) pva_nil)) pv_int (nomark _)) pv_non pv_int))) pvb_nil) (pvb_one (pvs_ret (pv_callB (cr_maxK K rfl) max_ok (by rfl) B.max_ (by decide +kernel) (pva_cons (pv_lst (pva_cons pv_int (pva_star (pv_lc (own := [("last", 2), ("end", 3)]) rfl sc_lateness.nd (pvi_enum (by rfl) B.enumerate_ (pva_cons (pv_callK K F_told_passed (hr.mono (by decide)) (by rfl) g_told_passed k_told_passed d_told_passed (pva_cons (pv_var 0) (pva_cons (pv_var 1) pva_nil))) pva_nil)) (blkOk_by (own := [("last", 2), ("end", 3)]) (N := N_lateness) (sc := defScope s_lateness) (by decide +kernel)) (fun _ _ _ _ _ => (pvg_tupK K rfl (pvg_cons (pvg_name 2 sc_lateness.nd) (pvg_cons (pvg_name 3 sc_lateness.nd) pvg_nil)))) (own_tup (own_cons (own_name (by decide)) (own_cons (own_name (by decide)) own_nil))) (fun _ _ _ _ _ => (pvts_one (pvt_cmp op_gt gt_ok (pv_ixsK K (pv_var 1) (pv_var 2) (fun _ _ => rfl)) pv_int (nomark _)))) (fun _ _ _ _ _ => (pv_sub (pv_var 3) (pv_var 2))) s H) pva_nil))) pva_nil)))))))⟩
abbrev s_let_in : Stmt := topS 28
abbrev N_let_in : List Str := ["curve", "ticks"]
theorem sc_let_in : FnScope N_let_in ["curve", "ticks"] (defScope s_let_in) := ⟨rfl, rfl, rfl, by decide +kernel, rfl, by decide +kernel, by decide +kernel⟩
theorem ok_let_in {f : Addr} {fd : FuncData} (F : Fun K "let_in" "let_in" s_let_in f fd) (B : Bi mg) (C_look_at_curve : Def P w K mg base "look_at_curve" 3 ["curve"] 1 m_look_at_curve) (C_is_int : Def P w K mg base "is_int" 1 ["value", "low", "high"] 3 m_is_int) (C_told_at : Def P w K mg base "told_at" 1 ["curve", "ticks"] 2 m_told_at) : FnOk P w K mg base CX0 4 f fd ["curve", "ticks"] (spF K 2 m_let_in) := by
  obtain ⟨f_look_at_curve, fd_look_at_curve, F_look_at_curve, g_look_at_curve, k_look_at_curve, d_look_at_curve⟩ := C_look_at_curve
  obtain ⟨f_is_int, fd_is_int, F_is_int, g_is_int, k_is_int, d_is_int⟩ := C_is_int
  obtain ⟨f_told_at, fd_told_at, F_told_at, g_told_at, k_told_at, d_told_at⟩ := C_told_at
  refine def_okN 3 (sb := b_let_in) F sc_let_in rfl rfl rfl fun cdv A outer s H E hr => ⟨_, (pvb_cons (pvs_expr (pv_callK K F_look_at_curve (hr.mono (by decide)) (by rfl) g_look_at_curve k_look_at_curve d_look_at_curve (pva_cons (pv_var 0) pva_nil))) (pvb_cons (pvs_if (pvt_not (pvt_val (pv_callK K F_is_int (hr.mono (by decide)) (by rfl) g_is_int k_is_int d_is_int (pva_cons (pv_var 1) (pva_cons pv_int (pva_cons (pv_powA pv_int pv_int) pva_nil)))))) (pvb_one pvs_no) pvb_nil) (pvb_one (pvs_ret (pv_callK K F_told_at (hr.mono (by decide)) (by rfl) g_told_at k_told_at d_told_at (pva_cons (pv_var 0) (pva_cons (pv_var 1) pva_nil)))))))⟩
abbrev s_passed_on : Stmt := topS 30
abbrev N_passed_on : List Str := ["server", "ticks"]
theorem sc_passed_on : FnScope N_passed_on ["server", "ticks"] (defScope s_passed_on) := ⟨rfl, rfl, rfl, by decide +kernel, rfl, by decide +kernel, by decide +kernel⟩
theorem ok_passed_on {f : Addr} {fd : FuncData} (F : Fun K "passed_on" "passed_on" s_passed_on f fd) (B : Bi mg) (C_look_at_server : Def P w K mg base "look_at_server" 3 ["server"] 1 m_look_at_server) (C_is_int : Def P w K mg base "is_int" 1 ["value", "low", "high"] 3 m_is_int) (C_told_served : Def P w K mg base "told_served" 1 ["server", "ticks"] 2 m_told_served) : FnOk P w K mg base CX0 4 f fd ["server", "ticks"] (spF K 2 m_passed_on) := by
  obtain ⟨f_look_at_server, fd_look_at_server, F_look_at_server, g_look_at_server, k_look_at_server, d_look_at_server⟩ := C_look_at_server
  obtain ⟨f_is_int, fd_is_int, F_is_int, g_is_int, k_is_int, d_is_int⟩ := C_is_int
  obtain ⟨f_told_served, fd_told_served, F_told_served, g_told_served, k_told_served, d_told_served⟩ := C_told_served
  refine def_okN 3 (sb := b_passed_on) F sc_passed_on rfl rfl rfl fun cdv A outer s H E hr => ⟨_, (pvb_cons (pvs_expr (pv_callK K F_look_at_server (hr.mono (by decide)) (by rfl) g_look_at_server k_look_at_server d_look_at_server (pva_cons (pv_var 0) pva_nil))) (pvb_cons (pvs_if (pvt_not (pvt_val (pv_callK K F_is_int (hr.mono (by decide)) (by rfl) g_is_int k_is_int d_is_int (pva_cons (pv_var 1) (pva_cons pv_int (pva_cons (pv_powA pv_int pv_int) pva_nil)))))) (pvb_one pvs_no) pvb_nil) (pvb_one (pvs_ret (pv_callK K F_told_served (hr.mono (by decide)) (by rfl) g_told_served k_told_served d_told_served (pva_cons (pv_var 0) (pva_cons (pv_var 1) pva_nil)))))))⟩
abbrev s_held_most : Stmt := topS 45
abbrev N_held_most : List Str := ["curve", "server", "some", "tick"]
theorem sc_held_most : FnScope N_held_most ["curve", "server"] (defScope s_held_most) := ⟨rfl, rfl, rfl, by decide +kernel, rfl, by decide +kernel, by decide +kernel⟩
theorem ok_held_most {f : Addr} {fd : FuncData} (F : Fun K "held_most" "held_most" s_held_most f fd) (B : Bi mg) (C_look_at_curve : Def P w K mg base "look_at_curve" 3 ["curve"] 1 m_look_at_curve) (C_look_at_server : Def P w K mg base "look_at_server" 3 ["server"] 1 m_look_at_server) (C_ticks_of : Def P w K mg base "ticks_of" 1 ["curve"] 1 m_ticks_of) (C_told_at : Def P w K mg base "told_at" 1 ["curve", "ticks"] 2 m_told_at) (C_told_served : Def P w K mg base "told_served" 1 ["server", "ticks"] 2 m_told_served) : FnOk P w K mg base CX0 4 f fd ["curve", "server"] (spF K 2 m_held_most) := by
  obtain ⟨f_look_at_curve, fd_look_at_curve, F_look_at_curve, g_look_at_curve, k_look_at_curve, d_look_at_curve⟩ := C_look_at_curve
  obtain ⟨f_look_at_server, fd_look_at_server, F_look_at_server, g_look_at_server, k_look_at_server, d_look_at_server⟩ := C_look_at_server
  obtain ⟨f_ticks_of, fd_ticks_of, F_ticks_of, g_ticks_of, k_ticks_of, d_ticks_of⟩ := C_ticks_of
  obtain ⟨f_told_at, fd_told_at, F_told_at, g_told_at, k_told_at, d_told_at⟩ := C_told_at
  obtain ⟨f_told_served, fd_told_served, F_told_served, g_told_served, k_told_served, d_told_served⟩ := C_told_served
  refine def_okN 3 (sb := b_held_most) F sc_held_most rfl rfl rfl fun cdv A outer s H E hr => ⟨_, (pvb_cons (pvs_expr (pv_callK K F_look_at_curve (hr.mono (by decide)) (by rfl) g_look_at_curve k_look_at_curve d_look_at_curve (pva_cons (pv_var 0) pva_nil))) (pvb_cons (pvs_expr (pv_callK K F_look_at_server (hr.mono (by decide)) (by rfl) g_look_at_server k_look_at_server d_look_at_server (pva_cons (pv_var 1) pva_nil))) (pvb_cons (pvs_if (pvt_cmp op_gt gt_ok (pv_ixsK K (pv_ixsK K (pv_var 0) (pv_neg pv_int) (fun _ _ => rfl)) pv_int (fun _ _ => rfl)) (pv_ixsK K (pv_var 1) pv_int (fun _ _ => rfl)) (nomark _)) (pvb_one (pvs_ret pv_non)) pvb_nil) (pvb_cons (pvs_set 2 sc_held_most.nd (pv_lst (pva_star (pv_callK K F_ticks_of (hr.mono (by decide)) (by rfl) g_ticks_of k_ticks_of d_ticks_of (pva_cons (pv_var 0) pva_nil)) (pva_cons (pv_addK K (pv_ixsK K (pv_var 1) pv_int (fun _ _ => rfl)) pv_int) (pva_cons (pv_addK K (pv_ixsK K (pv_var 1) pv_int (fun _ _ => rfl)) pv_int) pva_nil))))) (pvb_one (pvs_ret (pv_callB (cr_maxK K rfl) max_ok (by rfl) B.max_ (by decide +kernel) (pva_cons (pv_lc (own := [("tick", 3)]) rfl sc_held_most.nd (pvi_list (pv_var 2)) (blkOk_by (own := [("tick", 3)]) (N := N_held_most) (sc := defScope s_held_most) (by decide +kernel)) (fun _ _ _ _ _ => (pvg_name 3 sc_held_most.nd)) (own_name (by decide)) (fun _ _ _ _ _ => pvts_nil) (fun _ _ _ _ _ => (pv_sub (pv_callK K F_told_at (hr.mono (by decide)) (by rfl) g_told_at k_told_at d_told_at (pva_cons (pv_var 0) (pva_cons (pv_var 3) pva_nil))) (pv_callK K F_told_served (hr.mono (by decide)) (by rfl) g_told_served k_told_served d_told_served (pva_cons (pv_var 1) (pva_cons (pv_sub (pv_var 3) pv_int) pva_nil))))) s H) pva_nil))))))))⟩
abbrev s__law_are_lates_right : Stmt := topS 58
abbrev N__law_are_lates_right : List Str := ["pot", "traffic", "rate", "late", "more", "due", "burst", "curve", "worst", "ticks"]
theorem sc__law_are_lates_right : FnScope N__law_are_lates_right ["pot", "traffic", "rate"] (defScope s__law_are_lates_right) := ⟨rfl, rfl, rfl, by decide +kernel, rfl, by decide +kernel, by decide +kernel⟩
theorem ok__law_are_lates_right {f : Addr} {fd : FuncData} (F : Fun K "_law_are_lates_right" "_law_are_lates_right" s__law_are_lates_right f fd) (B : Bi mg) (C__law_take : Def P w K mg base "_law_take" 1 ["pot", "upto"] 2 m__law_take) (C_lateness : Def P w K mg base "lateness" 4 ["server", "traffic"] 2 m_lateness) (C__law_late : Def P w K mg base "_law_late" 1 ["server", "traffic"] 2 m__law_late) (C__law_burst : Def P w K mg base "_law_burst" 2 ["traffic", "rate"] 2 m__law_burst) (C_late_most : Def P w K mg base "late_most" 4 ["curve", "server"] 2 m_late_most) (C_held_most : Def P w K mg base "held_most" 4 ["curve", "server"] 2 m_held_most) (C_held : Def P w K mg base "held" 4 ["server", "traffic"] 2 m_held) (C_let_in : Def P w K mg base "let_in" 4 ["curve", "ticks"] 2 m_let_in) (C_passed_on : Def P w K mg base "passed_on" 4 ["server", "ticks"] 2 m_passed_on) : FnOk P w K mg base CX0 5 f fd ["pot", "traffic", "rate"] (spF K 3 m__law_are_lates_right) := by
  obtain ⟨f__law_take, fd__law_take, F__law_take, g__law_take, k__law_take, d__law_take⟩ := C__law_take
  obtain ⟨f_lateness, fd_lateness, F_lateness, g_lateness, k_lateness, d_lateness⟩ := C_lateness
  obtain ⟨f__law_late, fd__law_late, F__law_late, g__law_late, k__law_late, d__law_late⟩ := C__law_late
  obtain ⟨f__law_burst, fd__law_burst, F__law_burst, g__law_burst, k__law_burst, d__law_burst⟩ := C__law_burst
  obtain ⟨f_late_most, fd_late_most, F_late_most, g_late_most, k_late_most, d_late_most⟩ := C_late_most
  obtain ⟨f_held_most, fd_held_most, F_held_most, g_held_most, k_held_most, d_held_most⟩ := C_held_most
  obtain ⟨f_held, fd_held, F_held, g_held, k_held, d_held⟩ := C_held
  obtain ⟨f_let_in, fd_let_in, F_let_in, g_let_in, k_let_in, d_let_in⟩ := C_let_in
  obtain ⟨f_passed_on, fd_passed_on, F_passed_on, g_passed_on, k_passed_on, d_passed_on⟩ := C_passed_on
  refine def_okN 4 (sb := b__law_are_lates_right) F sc__law_are_lates_right rfl rfl rfl fun cdv A outer s H E hr => ⟨_, (pvb_cons (pvs_par rfl sc__law_are_lates_right.nd (by decide) rfl rfl (pva_cons (pv_callTy call_int1 int_ok (by rfl) B.int_ (by decide +kernel) (pva_cons (pv_callK K F__law_take (hr.mono (by decide)) (by rfl) g__law_take k__law_take d__law_take (pva_cons (pv_var 0) (pva_cons pv_int pva_nil))) pva_nil)) (pva_cons (pv_callTy call_int1 int_ok (by rfl) B.int_ (by decide +kernel) (pva_cons (pv_callK K F__law_take (hr.mono (by decide)) (by rfl) g__law_take k__law_take d__law_take (pva_cons (pv_var 0) (pva_cons pv_int pva_nil))) pva_nil)) pva_nil)) (by rfl)) (pvb_cons (pvs_if (pvt_cmp (op_eqDK K hr.units) eq_ok (pv_var 2) pv_int (nomark _)) (pvb_one (pvs_ret (pv_eqK K hr.units (pv_callB cr_reprN reprN_ok (by rfl) B.repr_ (by decide +kernel) (pva_cons (pv_callK K F_lateness (hr.mono (by decide)) (by rfl) g_lateness k_lateness d_lateness (pva_cons (pv_tup (pva_cons pv_int (pva_cons (pv_var 3) pva_nil))) (pva_cons (pv_var 1) pva_nil))) pva_nil)) (pv_callB cr_reprN reprN_ok (by rfl) B.repr_ (by decide +kernel) (pva_cons (pv_if (pvt_cmp op_gt gt_ok (pv_callB (cr_sumPK K rfl) sumP_ok (by rfl) B.sum_ (by decide +kernel) (pva_cons (pv_var 1) pva_nil)) pv_int (nomark _)) pv_non pv_int) pva_nil))))) pvb_nil) (pvb_cons (pvs_set 5 sc__law_are_lates_right.nd (pv_callK K F__law_late (hr.mono (by decide)) (by rfl) g__law_late k__law_late d__law_late (pva_cons (pv_tup (pva_cons (pv_var 2) (pva_cons (pv_var 3) pva_nil))) (pva_cons (pv_var 1) pva_nil)))) (pvb_cons (pvs_if (pvt_cmp (op_neDK K hr.units) ne_ok (pv_callK K F_lateness (hr.mono (by decide)) (by rfl) g_lateness k_lateness d_lateness (pva_cons (pv_tup (pva_cons (pv_var 2) (pva_cons (pv_var 3) pva_nil))) (pva_cons (pv_var 1) pva_nil))) (pv_var 5) (nomark _)) (pvb_one (pvs_ret pv_bl)) pvb_nil) (pvb_cons (pvs_if (pvt_cmp (op_neDK K hr.units) ne_ok (pv_callK K F_lateness (hr.mono (by decide)) (by rfl) g_lateness k_lateness d_lateness (pva_cons (pv_tup (pva_cons (pv_var 2) (pva_cons (pv_addK K (pv_var 3) (pv_var 4)) pva_nil))) (pva_cons (pv_var 1) pva_nil))) (pv_if (pvt_cmp op_gt gt_ok (pv_callB (cr_sumPK K rfl) sumP_ok (by rfl) B.sum_ (by decide +kernel) (pva_cons (pv_var 1) pva_nil)) pv_int (nomark _)) (pv_addK K (pv_var 5) (pv_var 4)) pv_int) (nomark _)) (pvb_one (pvs_ret pv_bl)) pvb_nil) (pvb_cons (pvs_set 6 sc__law_are_lates_right.nd (pv_callK K F__law_burst (hr.mono (by decide)) (by rfl) g__law_burst k__law_burst d__law_burst (pva_cons (pv_var 1) (pva_cons (pv_var 2) pva_nil)))) (pvb_cons (pvs_if (PVW.pt (pvw_or (pvt_cmp op_gt gt_ok (pv_var 6) pv_int (nomark _)) (pvw_or1 (pvt_cmp (op_eqDK K hr.units) eq_ok (pv_addK K (pv_var 6) (pv_var 2)) pv_int (nomark _))))) (pvb_one (pvs_ret pv_bl)) pvb_nil) (pvb_cons (pvs_set 7 sc__law_are_lates_right.nd (pv_tup (pva_cons (pv_tup (pva_cons (pv_var 6) (pva_cons (pv_var 2) pva_nil))) pva_nil))) (pvb_cons (pvs_set 8 sc__law_are_lates_right.nd (pv_callK K F_late_most (hr.mono (by decide)) (by rfl) g_late_most k_late_most d_late_most (pva_cons (pv_var 7) (pva_cons (pv_tup (pva_cons (pv_var 2) (pva_cons (pv_var 3) pva_nil))) pva_nil)))) (pvb_cons (pvs_if (PVW.pt (pvw_or (pvt_cmp (op_neDK K hr.units) ne_ok (pv_sliceK K (pv_var 8) pvo_none (pvo_some pv_int)) (pv_tup (pva_cons pv_str (pva_cons (pv_sub (pv_addK K (pv_var 3) (pv_neg (pv_div (pv_neg (pv_addK K (pv_var 6) (pv_var 2))) (pv_var 2)))) pv_int) pva_nil))) (nomark _)) (pvw_or1 (pvt_cmp op_gt gt_ok (pv_var 5) (pv_ixsK K (pv_var 8) pv_int (fun _ _ => rfl)) (nomark _))))) (pvb_one (pvs_ret pv_bl)) pvb_nil) (pvb_cons (pvs_if (pvt_cmp (op_neDK K hr.units) ne_ok (pv_ixsK K (pv_callK K F_late_most (hr.mono (by decide)) (by rfl) g_late_most k_late_most d_late_most (pva_cons (pv_var 7) (pva_cons (pv_tup (pva_cons (pv_var 2) (pva_cons (pv_addK K (pv_var 3) (pv_var 4)) pva_nil))) pva_nil))) pv_int (fun _ _ => rfl)) (pv_addK K (pv_ixsK K (pv_var 8) pv_int (fun _ _ => rfl)) (pv_var 4)) (nomark _)) (pvb_one (pvs_ret pv_bl)) pvb_nil) (pvb_cons (pvs_set 5 sc__law_are_lates_right.nd (pv_addK K (pv_var 6) (pv_mulI (pv_var 2) (pv_addK K (pv_var 3) pv_int)))) (pvb_cons (pvs_if (PVW.pt (pvw_or (pvt_cmp (op_neDK K hr.units) ne_ok (pv_callK K F_held_most (hr.mono (by decide)) (by rfl) g_held_most k_held_most d_held_most (pva_cons (pv_var 7) (pva_cons (pv_tup (pva_cons (pv_var 2) (pva_cons (pv_var 3) pva_nil))) pva_nil))) (pv_var 5) (nomark _)) (pvw_or1 (pvt_cmp op_gt gt_ok (pv_callK K F_held (hr.mono (by decide)) (by rfl) g_held k_held d_held (pva_cons (pv_tup (pva_cons (pv_var 2) (pva_cons (pv_var 3) pva_nil))) (pva_cons (pv_var 1) pva_nil))) (pv_var 5) (nomark _))))) (pvb_one (pvs_ret pv_bl)) pvb_nil) (pvb_cons (pvs_set 9 sc__law_are_lates_right.nd (pv_callTy call_int1 int_ok (by rfl) B.int_ (by decide +kernel) (pva_cons (pv_callK K F__law_take (hr.mono (by decide)) (by rfl) g__law_take k__law_take d__law_take (pva_cons (pv_var 0) (pva_cons (pv_addK K (pv_powA pv_int pv_int) pv_int) pva_nil))) pva_nil))) (pvb_cons (pvs_if (pvt_cmp (op_neDK K hr.units) ne_ok (pv_callK K F_let_in (hr.mono (by decide)) (by rfl) g_let_in k_let_in d_let_in (pva_cons (pv_var 7) (pva_cons (pv_var 9) pva_nil))) (pv_mulI (pv_addK K (pv_var 6) (pv_mulI (pv_var 2) (pv_var 9))) (pv_callTy call_int1 int_ok (by rfl) B.int_ (by decide +kernel) (pva_cons (pv_gt (pv_var 9) pv_int) pva_nil))) (nomark _)) (pvb_one (pvs_ret pv_bl)) pvb_nil) (pvb_one (pvs_ret (pv_eqK K hr.units (pv_callK K F_passed_on (hr.mono (by decide)) (by rfl) g_passed_on k_passed_on d_passed_on (pva_cons (pv_tup (pva_cons (pv_var 2) (pva_cons (pv_var 3) pva_nil))) (pva_cons (pv_var 9) pva_nil))) (pv_mulI (pv_var 2) (pv_callB (call_max2 rfl) max2_ok (by rfl) B.max_ (by decide +kernel) (pva_cons pv_int (pva_cons (pv_sub (pv_var 9) (pv_var 3)) pva_nil))))))))))))))))))))))⟩
abbrev s_law : Stmt := topS 60
abbrev N_law : List Str := ["script", "place", "pot", "lap", "traffic", "rate"]
theorem sc_law : FnScope N_law ["script"] (defScope s_law) := ⟨rfl, rfl, rfl, by decide +kernel, rfl, by decide +kernel, by decide +kernel⟩
theorem ok_law {f : Addr} {fd : FuncData} (F : Fun K "law" "law" s_law f fd) (B : Bi mg) (C__law_cells : Def P w K mg base "_law_cells" 1 ["script", "most"] 2 m__law_cells) (C__law_pot : Def P w K mg base "_law_pot" 1 ["script", "place"] 2 m__law_pot) (C__law_take : Def P w K mg base "_law_take" 1 ["pot", "upto"] 2 m__law_take) (C__law_of : Def P w K mg base "_law_of" 2 ["pot", "some"] 2 m__law_of) (C__law_traffic : Def P w K mg base "_law_traffic" 3 ["pot"] 1 m__law_traffic) (C__law_is_burst_right : Def P w K mg base "_law_is_burst_right" 5 ["pot", "traffic", "rate"] 3 m__law_is_burst_right) (C__law_are_lates_right : Def P w K mg base "_law_are_lates_right" 5 ["pot", "traffic", "rate"] 3 m__law_are_lates_right) (C__law_is_shaped_right : Def P w K mg base "_law_is_shaped_right" 5 ["pot", "traffic", "rate"] 3 m__law_is_shaped_right) : FnOk P w K mg base CX0 6 f fd ["script"] (spF K 1 m_law) := by
  obtain ⟨f__law_cells, fd__law_cells, F__law_cells, g__law_cells, k__law_cells, d__law_cells⟩ := C__law_cells
  obtain ⟨f__law_pot, fd__law_pot, F__law_pot, g__law_pot, k__law_pot, d__law_pot⟩ := C__law_pot
  obtain ⟨f__law_take, fd__law_take, F__law_take, g__law_take, k__law_take, d__law_take⟩ := C__law_take
  obtain ⟨f__law_of, fd__law_of, F__law_of, g__law_of, k__law_of, d__law_of⟩ := C__law_of
  obtain ⟨f__law_traffic, fd__law_traffic, F__law_traffic, g__law_traffic, k__law_traffic, d__law_traffic⟩ := C__law_traffic
  obtain ⟨f__law_is_burst_right, fd__law_is_burst_right, F__law_is_burst_right, g__law_is_burst_right, k__law_is_burst_right, d__law_is_burst_right⟩ := C__law_is_burst_right
  obtain ⟨f__law_are_lates_right, fd__law_are_lates_right, F__law_are_lates_right, g__law_are_lates_right, k__law_are_lates_right, d__law_are_lates_right⟩ := C__law_are_lates_right
  obtain ⟨f__law_is_shaped_right, fd__law_is_shaped_right, F__law_is_shaped_right, g__law_is_shaped_right, k__law_is_shaped_right, d__law_is_shaped_right⟩ := C__law_is_shaped_right
  refine def_okN 5 (sb := b_law) F sc_law rfl rfl rfl fun cdv A outer s H E hr => ⟨_, (pvb_cons (pvs_for PassesOwn.never rfl (pvi_list (pv_callK K F__law_cells (hr.mono (by decide)) (by rfl) g__law_cells k__law_cells d__law_cells (pva_cons (pv_var 0) (pva_cons pv_int pva_nil)))) (pvg_name 1 sc_law.nd) (pvb_cons (pvs_set 2 sc_law.nd (pv_callK K F__law_pot (hr.mono (by decide)) (by rfl) g__law_pot k__law_pot d__law_pot (pva_cons (pv_var 0) (pva_cons (pv_var 1) pva_nil)))) (pvb_one (pvs_for PassesOwn.never rfl (pvi_range1 (by rfl) B.range_ (pva_cons pv_int pva_nil)) (pvg_name 3 sc_law.nd) (pvb_cons (pvs_par rfl sc_law.nd (by decide) rfl rfl (pva_cons (pv_callK K F__law_traffic (hr.mono (by decide)) (by rfl) g__law_traffic k__law_traffic d__law_traffic (pva_cons (pv_var 2) pva_nil)) (pva_cons (pv_callTy call_int1 int_ok (by rfl) B.int_ (by decide +kernel) (pva_cons (pv_callK K F__law_take (hr.mono (by decide)) (by rfl) g__law_take k__law_take d__law_take (pva_cons (pv_var 2) (pva_cons (pv_callK K F__law_of (hr.mono (by decide)) (by rfl) g__law_of k__law_of d__law_of (pva_cons (pv_var 2) (pva_cons (pv_lst (pva_cons pv_int (pva_cons pv_int (pva_cons pv_int pva_nil)))) pva_nil))) pva_nil))) pva_nil)) pva_nil)) (by rfl)) (pvb_cons (pvs_if (PVW.pt (pvw_or (pvt_not (pvt_val (pv_callK K F__law_is_burst_right (hr.mono (by decide)) (by rfl) g__law_is_burst_right k__law_is_burst_right d__law_is_burst_right (pva_cons (pv_var 2) (pva_cons (pv_var 4) (pva_cons (pv_var 5) pva_nil)))))) (pvw_or1 (pvt_not (pvt_val (pv_callK K F__law_are_lates_right (hr.mono (by decide)) (by rfl) g__law_are_lates_right k__law_are_lates_right d__law_are_lates_right (pva_cons (pv_var 2) (pva_cons (pv_var 4) (pva_cons (pv_var 5) pva_nil))))))))) (pvb_one (pvs_ret pv_bl)) pvb_nil) (pvb_one (pvs_if (pvt_not (pvt_val (pv_callK K F__law_is_shaped_right (hr.mono (by decide)) (by rfl) g__law_is_shaped_right k__law_is_shaped_right d__law_is_shaped_right (pva_cons (pv_var 2) (pva_cons (pv_var 4) (pva_cons (pv_var 5) pva_nil)))))) (pvb_one (pvs_ret pv_bl)) pvb_nil)))))))) (pvb_one (pvs_ret pv_bl)))⟩
end
theorem Def.mk {P : Program} {w : World} {K : PySem.W.Frag} {h : Heap} {mg : Str → Option Value} {base : Heap} {x : Str} {k n : Nat} {ps : List Str} {g : DF} {f : Addr} {fd : FuncData} (X : K.In h) (G : h.Ns mainGlobals mg) (F : FnOk P w K mg base CX0 k f fd ps (spF K n g))
    (a : PySem.W.nsIn K mainGlobals x = some (some (.ref f))) (kp : PySem.W.keepIn K (.ref f) = true) (b : Binds K fd ps []) : Def P w K mg base x k ps n g := ⟨f, fd, F, PySem.W.mg_of X G a, kp, b⟩
/-- what the law asks of its walk -/
def lawSp (K : PySem.W.Frag) : Sp := spF K 1 m_law
theorem all_mk {l : PySem.W.OpenLaw} {w : World} {K : PySem.W.Frag} {h : Heap} {mg : Str → Option Value} {fa : Addr} (X : K.In h) (G : h.Ns mainGlobals mg) (hfa : mg "law" = some (.ref fa))
    {f0 : Addr} {od0 an0 : Option Addr} {sl0 : Array (Option Value)} {oc0 kV0 dc0 pm0 cd0 ct0 : Value}
    (a0 : PySem.W.nsIn K mainGlobals "_law_cells" = some (some (.ref f0))) (l0 : K.lookup f0 = some ⟨oc0, od0, .func (PySem.W.fnOf "_law_cells" "_law_cells" (defArgs s__law_cells) (defBody s__law_cells) (defScope s__law_cells) .none kV0 dc0 pm0 an0 cd0 ct0), sl0⟩) (c0 : PySem.W.codeIn K cd0 "_law_cells" = true) (k0 : PySem.W.keepIn K (.ref f0) = true)
    {f1 : Addr} {od1 an1 : Option Addr} {sl1 : Array (Option Value)} {oc1 kV1 dc1 pm1 cd1 ct1 : Value}
    (a1 : PySem.W.nsIn K mainGlobals "_law_pot" = some (some (.ref f1))) (l1 : K.lookup f1 = some ⟨oc1, od1, .func (PySem.W.fnOf "_law_pot" "_law_pot" (defArgs s__law_pot) (defBody s__law_pot) (defScope s__law_pot) .none kV1 dc1 pm1 an1 cd1 ct1), sl1⟩) (c1 : PySem.W.codeIn K cd1 "_law_pot" = true) (k1 : PySem.W.keepIn K (.ref f1) = true)
    {f2 : Addr} {od2 an2 : Option Addr} {sl2 : Array (Option Value)} {oc2 kV2 dc2 pm2 cd2 ct2 : Value}
    (a2 : PySem.W.nsIn K mainGlobals "_law_take" = some (some (.ref f2))) (l2 : K.lookup f2 = some ⟨oc2, od2, .func (PySem.W.fnOf "_law_take" "_law_take" (defArgs s__law_take) (defBody s__law_take) (defScope s__law_take) .none kV2 dc2 pm2 an2 cd2 ct2), sl2⟩) (c2 : PySem.W.codeIn K cd2 "_law_take" = true) (k2 : PySem.W.keepIn K (.ref f2) = true)
    {f3 : Addr} {od3 an3 : Option Addr} {sl3 : Array (Option Value)} {oc3 kV3 dc3 pm3 cd3 ct3 : Value}
    (a3 : PySem.W.nsIn K mainGlobals "_law_of" = some (some (.ref f3))) (l3 : K.lookup f3 = some ⟨oc3, od3, .func (PySem.W.fnOf "_law_of" "_law_of" (defArgs s__law_of) (defBody s__law_of) (defScope s__law_of) .none kV3 dc3 pm3 an3 cd3 ct3), sl3⟩) (c3 : PySem.W.codeIn K cd3 "_law_of" = true) (k3 : PySem.W.keepIn K (.ref f3) = true)
    {f4 : Addr} {od4 an4 : Option Addr} {sl4 : Array (Option Value)} {oc4 kV4 dc4 pm4 cd4 ct4 : Value}
    (a4 : PySem.W.nsIn K mainGlobals "_law_traffic" = some (some (.ref f4))) (l4 : K.lookup f4 = some ⟨oc4, od4, .func (PySem.W.fnOf "_law_traffic" "_law_traffic" (defArgs s__law_traffic) (defBody s__law_traffic) (defScope s__law_traffic) .none kV4 dc4 pm4 an4 cd4 ct4), sl4⟩) (c4 : PySem.W.codeIn K cd4 "_law_traffic" = true) (k4 : PySem.W.keepIn K (.ref f4) = true)
    {f5 : Addr} {od5 an5 : Option Addr} {sl5 : Array (Option Value)} {oc5 kV5 dc5 pm5 cd5 ct5 : Value}
    (a5 : PySem.W.nsIn K mainGlobals "is_int" = some (some (.ref f5))) (l5 : K.lookup f5 = some ⟨oc5, od5, .func (PySem.W.fnOf "is_int" "is_int" (defArgs s_is_int) (defBody s_is_int) (defScope s_is_int) .none kV5 dc5 pm5 an5 cd5 ct5), sl5⟩) (c5 : PySem.W.codeIn K cd5 "is_int" = true) (k5 : PySem.W.keepIn K (.ref f5) = true)
    {f6 : Addr} {od6 an6 : Option Addr} {sl6 : Array (Option Value)} {oc6 kV6 dc6 pm6 cd6 ct6 : Value}
    (a6 : PySem.W.nsIn K mainGlobals "is_curve" = some (some (.ref f6))) (l6 : K.lookup f6 = some ⟨oc6, od6, .func (PySem.W.fnOf "is_curve" "is_curve" (defArgs s_is_curve) (defBody s_is_curve) (defScope s_is_curve) .none kV6 dc6 pm6 an6 cd6 ct6), sl6⟩) (c6 : PySem.W.codeIn K cd6 "is_curve" = true) (k6 : PySem.W.keepIn K (.ref f6) = true)
    {f7 : Addr} {od7 an7 : Option Addr} {sl7 : Array (Option Value)} {oc7 kV7 dc7 pm7 cd7 ct7 : Value}
    (a7 : PySem.W.nsIn K mainGlobals "look_at_curve" = some (some (.ref f7))) (l7 : K.lookup f7 = some ⟨oc7, od7, .func (PySem.W.fnOf "look_at_curve" "look_at_curve" (defArgs s_look_at_curve) (defBody s_look_at_curve) (defScope s_look_at_curve) .none kV7 dc7 pm7 an7 cd7 ct7), sl7⟩) (c7 : PySem.W.codeIn K cd7 "look_at_curve" = true) (k7 : PySem.W.keepIn K (.ref f7) = true)
    {f8 : Addr} {od8 an8 : Option Addr} {sl8 : Array (Option Value)} {oc8 kV8 dc8 pm8 cd8 ct8 : Value}
    (a8 : PySem.W.nsIn K mainGlobals "is_traffic" = some (some (.ref f8))) (l8 : K.lookup f8 = some ⟨oc8, od8, .func (PySem.W.fnOf "is_traffic" "is_traffic" (defArgs s_is_traffic) (defBody s_is_traffic) (defScope s_is_traffic) .none kV8 dc8 pm8 an8 cd8 ct8), sl8⟩) (c8 : PySem.W.codeIn K cd8 "is_traffic" = true) (k8 : PySem.W.keepIn K (.ref f8) = true)
    {f9 : Addr} {od9 an9 : Option Addr} {sl9 : Array (Option Value)} {oc9 kV9 dc9 pm9 cd9 ct9 : Value}
    (a9 : PySem.W.nsIn K mainGlobals "look_at_traffic" = some (some (.ref f9))) (l9 : K.lookup f9 = some ⟨oc9, od9, .func (PySem.W.fnOf "look_at_traffic" "look_at_traffic" (defArgs s_look_at_traffic) (defBody s_look_at_traffic) (defScope s_look_at_traffic) .none kV9 dc9 pm9 an9 cd9 ct9), sl9⟩) (c9 : PySem.W.codeIn K cd9 "look_at_traffic" = true) (k9 : PySem.W.keepIn K (.ref f9) = true)
    {f10 : Addr} {od10 an10 : Option Addr} {sl10 : Array (Option Value)} {oc10 kV10 dc10 pm10 cd10 ct10 : Value}
    (a10 : PySem.W.nsIn K mainGlobals "buckets_of" = some (some (.ref f10))) (l10 : K.lookup f10 = some ⟨oc10, od10, .func (PySem.W.fnOf "buckets_of" "buckets_of" (defArgs s_buckets_of) (defBody s_buckets_of) (defScope s_buckets_of) .none kV10 dc10 pm10 an10 cd10 ct10), sl10⟩) (c10 : PySem.W.codeIn K cd10 "buckets_of" = true) (k10 : PySem.W.keepIn K (.ref f10) = true)
    {f11 : Addr} {od11 an11 : Option Addr} {sl11 : Array (Option Value)} {oc11 kV11 dc11 pm11 cd11 ct11 : Value}
    (a11 : PySem.W.nsIn K mainGlobals "told_let" = some (some (.ref f11))) (l11 : K.lookup f11 = some ⟨oc11, od11, .func (PySem.W.fnOf "told_let" "told_let" (defArgs s_told_let) (defBody s_told_let) (defScope s_told_let) .none kV11 dc11 pm11 an11 cd11 ct11), sl11⟩) (c11 : PySem.W.codeIn K cd11 "told_let" = true) (k11 : PySem.W.keepIn K (.ref f11) = true)
    {f12 : Addr} {od12 an12 : Option Addr} {sl12 : Array (Option Value)} {oc12 kV12 dc12 pm12 cd12 ct12 : Value}
    (a12 : PySem.W.nsIn K mainGlobals "shaped" = some (some (.ref f12))) (l12 : K.lookup f12 = some ⟨oc12, od12, .func (PySem.W.fnOf "shaped" "shaped" (defArgs s_shaped) (defBody s_shaped) (defScope s_shaped) .none kV12 dc12 pm12 an12 cd12 ct12), sl12⟩) (c12 : PySem.W.codeIn K cd12 "shaped" = true) (k12 : PySem.W.keepIn K (.ref f12) = true)
    {f13 : Addr} {od13 an13 : Option Addr} {sl13 : Array (Option Value)} {oc13 kV13 dc13 pm13 cd13 ct13 : Value}
    (a13 : PySem.W.nsIn K mainGlobals "told_at" = some (some (.ref f13))) (l13 : K.lookup f13 = some ⟨oc13, od13, .func (PySem.W.fnOf "told_at" "told_at" (defArgs s_told_at) (defBody s_told_at) (defScope s_told_at) .none kV13 dc13 pm13 an13 cd13 ct13), sl13⟩) (c13 : PySem.W.codeIn K cd13 "told_at" = true) (k13 : PySem.W.keepIn K (.ref f13) = true)
    {f14 : Addr} {od14 an14 : Option Addr} {sl14 : Array (Option Value)} {oc14 kV14 dc14 pm14 cd14 ct14 : Value}
    (a14 : PySem.W.nsIn K mainGlobals "too_much" = some (some (.ref f14))) (l14 : K.lookup f14 = some ⟨oc14, od14, .func (PySem.W.fnOf "too_much" "too_much" (defArgs s_too_much) (defBody s_too_much) (defScope s_too_much) .none kV14 dc14 pm14 an14 cd14 ct14), sl14⟩) (c14 : PySem.W.codeIn K cd14 "too_much" = true) (k14 : PySem.W.keepIn K (.ref f14) = true)
    {f15 : Addr} {od15 an15 : Option Addr} {sl15 : Array (Option Value)} {oc15 kV15 dc15 pm15 cd15 ct15 : Value}
    (a15 : PySem.W.nsIn K mainGlobals "fits" = some (some (.ref f15))) (l15 : K.lookup f15 = some ⟨oc15, od15, .func (PySem.W.fnOf "fits" "fits" (defArgs s_fits) (defBody s_fits) (defScope s_fits) .none kV15 dc15 pm15 an15 cd15 ct15), sl15⟩) (c15 : PySem.W.codeIn K cd15 "fits" = true) (k15 : PySem.W.keepIn K (.ref f15) = true)
    {f16 : Addr} {od16 an16 : Option Addr} {sl16 : Array (Option Value)} {oc16 kV16 dc16 pm16 cd16 ct16 : Value}
    (a16 : PySem.W.nsIn K mainGlobals "least_burst" = some (some (.ref f16))) (l16 : K.lookup f16 = some ⟨oc16, od16, .func (PySem.W.fnOf "least_burst" "least_burst" (defArgs s_least_burst) (defBody s_least_burst) (defScope s_least_burst) .none kV16 dc16 pm16 an16 cd16 ct16), sl16⟩) (c16 : PySem.W.codeIn K cd16 "least_burst" = true) (k16 : PySem.W.keepIn K (.ref f16) = true)
    {f17 : Addr} {od17 an17 : Option Addr} {sl17 : Array (Option Value)} {oc17 kV17 dc17 pm17 cd17 ct17 : Value}
    (a17 : PySem.W.nsIn K mainGlobals "_law_is_shaped_right" = some (some (.ref f17))) (l17 : K.lookup f17 = some ⟨oc17, od17, .func (PySem.W.fnOf "_law_is_shaped_right" "_law_is_shaped_right" (defArgs s__law_is_shaped_right) (defBody s__law_is_shaped_right) (defScope s__law_is_shaped_right) .none kV17 dc17 pm17 an17 cd17 ct17), sl17⟩) (c17 : PySem.W.codeIn K cd17 "_law_is_shaped_right" = true) (k17 : PySem.W.keepIn K (.ref f17) = true)
    {f18 : Addr} {od18 an18 : Option Addr} {sl18 : Array (Option Value)} {oc18 kV18 dc18 pm18 cd18 ct18 : Value}
    (a18 : PySem.W.nsIn K mainGlobals "_law_windows" = some (some (.ref f18))) (l18 : K.lookup f18 = some ⟨oc18, od18, .func (PySem.W.fnOf "_law_windows" "_law_windows" (defArgs s__law_windows) (defBody s__law_windows) (defScope s__law_windows) .none kV18 dc18 pm18 an18 cd18 ct18), sl18⟩) (c18 : PySem.W.codeIn K cd18 "_law_windows" = true) (k18 : PySem.W.keepIn K (.ref f18) = true)
    {f19 : Addr} {od19 an19 : Option Addr} {sl19 : Array (Option Value)} {oc19 kV19 dc19 pm19 cd19 ct19 : Value}
    (a19 : PySem.W.nsIn K mainGlobals "_law_burst" = some (some (.ref f19))) (l19 : K.lookup f19 = some ⟨oc19, od19, .func (PySem.W.fnOf "_law_burst" "_law_burst" (defArgs s__law_burst) (defBody s__law_burst) (defScope s__law_burst) .none kV19 dc19 pm19 an19 cd19 ct19), sl19⟩) (c19 : PySem.W.codeIn K cd19 "_law_burst" = true) (k19 : PySem.W.keepIn K (.ref f19) = true)
    {f20 : Addr} {od20 an20 : Option Addr} {sl20 : Array (Option Value)} {oc20 kV20 dc20 pm20 cd20 ct20 : Value}
    (a20 : PySem.W.nsIn K mainGlobals "_law_is_bool" = some (some (.ref f20))) (l20 : K.lookup f20 = some ⟨oc20, od20, .func (PySem.W.fnOf "_law_is_bool" "_law_is_bool" (defArgs s__law_is_bool) (defBody s__law_is_bool) (defScope s__law_is_bool) .none kV20 dc20 pm20 an20 cd20 ct20), sl20⟩) (c20 : PySem.W.codeIn K cd20 "_law_is_bool" = true) (k20 : PySem.W.keepIn K (.ref f20) = true)
    {f21 : Addr} {od21 an21 : Option Addr} {sl21 : Array (Option Value)} {oc21 kV21 dc21 pm21 cd21 ct21 : Value}
    (a21 : PySem.W.nsIn K mainGlobals "is_server" = some (some (.ref f21))) (l21 : K.lookup f21 = some ⟨oc21, od21, .func (PySem.W.fnOf "is_server" "is_server" (defArgs s_is_server) (defBody s_is_server) (defScope s_is_server) .none kV21 dc21 pm21 an21 cd21 ct21), sl21⟩) (c21 : PySem.W.codeIn K cd21 "is_server" = true) (k21 : PySem.W.keepIn K (.ref f21) = true)
    {f22 : Addr} {od22 an22 : Option Addr} {sl22 : Array (Option Value)} {oc22 kV22 dc22 pm22 cd22 ct22 : Value}
    (a22 : PySem.W.nsIn K mainGlobals "look_at_server" = some (some (.ref f22))) (l22 : K.lookup f22 = some ⟨oc22, od22, .func (PySem.W.fnOf "look_at_server" "look_at_server" (defArgs s_look_at_server) (defBody s_look_at_server) (defScope s_look_at_server) .none kV22 dc22 pm22 an22 cd22 ct22), sl22⟩) (c22 : PySem.W.codeIn K cd22 "look_at_server" = true) (k22 : PySem.W.keepIn K (.ref f22) = true)
    {f23 : Addr} {od23 an23 : Option Addr} {sl23 : Array (Option Value)} {oc23 kV23 dc23 pm23 cd23 ct23 : Value}
    (a23 : PySem.W.nsIn K mainGlobals "told_served" = some (some (.ref f23))) (l23 : K.lookup f23 = some ⟨oc23, od23, .func (PySem.W.fnOf "told_served" "told_served" (defArgs s_told_served) (defBody s_told_served) (defScope s_told_served) .none kV23 dc23 pm23 an23 cd23 ct23), sl23⟩) (c23 : PySem.W.codeIn K cd23 "told_served" = true) (k23 : PySem.W.keepIn K (.ref f23) = true)
    {f24 : Addr} {od24 an24 : Option Addr} {sl24 : Array (Option Value)} {oc24 kV24 dc24 pm24 cd24 ct24 : Value}
    (a24 : PySem.W.nsIn K mainGlobals "held" = some (some (.ref f24))) (l24 : K.lookup f24 = some ⟨oc24, od24, .func (PySem.W.fnOf "held" "held" (defArgs s_held) (defBody s_held) (defScope s_held) .none kV24 dc24 pm24 an24 cd24 ct24), sl24⟩) (c24 : PySem.W.codeIn K cd24 "held" = true) (k24 : PySem.W.keepIn K (.ref f24) = true)
    {f25 : Addr} {od25 an25 : Option Addr} {sl25 : Array (Option Value)} {oc25 kV25 dc25 pm25 cd25 ct25 : Value}
    (a25 : PySem.W.nsIn K mainGlobals "shows_fits" = some (some (.ref f25))) (l25 : K.lookup f25 = some ⟨oc25, od25, .func (PySem.W.fnOf "shows_fits" "shows_fits" (defArgs s_shows_fits) (defBody s_shows_fits) (defScope s_shows_fits) .none kV25 dc25 pm25 an25 cd25 ct25), sl25⟩) (c25 : PySem.W.codeIn K cd25 "shows_fits" = true) (k25 : PySem.W.keepIn K (.ref f25) = true)
    {f26 : Addr} {od26 an26 : Option Addr} {sl26 : Array (Option Value)} {oc26 kV26 dc26 pm26 cd26 ct26 : Value}
    (a26 : PySem.W.nsIn K mainGlobals "_law_is_burst_right" = some (some (.ref f26))) (l26 : K.lookup f26 = some ⟨oc26, od26, .func (PySem.W.fnOf "_law_is_burst_right" "_law_is_burst_right" (defArgs s__law_is_burst_right) (defBody s__law_is_burst_right) (defScope s__law_is_burst_right) .none kV26 dc26 pm26 an26 cd26 ct26), sl26⟩) (c26 : PySem.W.codeIn K cd26 "_law_is_burst_right" = true) (k26 : PySem.W.keepIn K (.ref f26) = true)
    {f27 : Addr} {od27 an27 : Option Addr} {sl27 : Array (Option Value)} {oc27 kV27 dc27 pm27 cd27 ct27 : Value}
    (a27 : PySem.W.nsIn K mainGlobals "_law_late" = some (some (.ref f27))) (l27 : K.lookup f27 = some ⟨oc27, od27, .func (PySem.W.fnOf "_law_late" "_law_late" (defArgs s__law_late) (defBody s__law_late) (defScope s__law_late) .none kV27 dc27 pm27 an27 cd27 ct27), sl27⟩) (c27 : PySem.W.codeIn K cd27 "_law_late" = true) (k27 : PySem.W.keepIn K (.ref f27) = true)
    {f28 : Addr} {od28 an28 : Option Addr} {sl28 : Array (Option Value)} {oc28 kV28 dc28 pm28 cd28 ct28 : Value}
    (a28 : PySem.W.nsIn K mainGlobals "late_by" = some (some (.ref f28))) (l28 : K.lookup f28 = some ⟨oc28, od28, .func (PySem.W.fnOf "late_by" "late_by" (defArgs s_late_by) (defBody s_late_by) (defScope s_late_by) .none kV28 dc28 pm28 an28 cd28 ct28), sl28⟩) (c28 : PySem.W.codeIn K cd28 "late_by" = true) (k28 : PySem.W.keepIn K (.ref f28) = true)
    {f29 : Addr} {od29 an29 : Option Addr} {sl29 : Array (Option Value)} {oc29 kV29 dc29 pm29 cd29 ct29 : Value}
    (a29 : PySem.W.nsIn K mainGlobals "ticks_of" = some (some (.ref f29))) (l29 : K.lookup f29 = some ⟨oc29, od29, .func (PySem.W.fnOf "ticks_of" "ticks_of" (defArgs s_ticks_of) (defBody s_ticks_of) (defScope s_ticks_of) .none kV29 dc29 pm29 an29 cd29 ct29), sl29⟩) (c29 : PySem.W.codeIn K cd29 "ticks_of" = true) (k29 : PySem.W.keepIn K (.ref f29) = true)
    {f30 : Addr} {od30 an30 : Option Addr} {sl30 : Array (Option Value)} {oc30 kV30 dc30 pm30 cd30 ct30 : Value}
    (a30 : PySem.W.nsIn K mainGlobals "told_late" = some (some (.ref f30))) (l30 : K.lookup f30 = some ⟨oc30, od30, .func (PySem.W.fnOf "told_late" "told_late" (defArgs s_told_late) (defBody s_told_late) (defScope s_told_late) .none kV30 dc30 pm30 an30 cd30 ct30), sl30⟩) (c30 : PySem.W.codeIn K cd30 "told_late" = true) (k30 : PySem.W.keepIn K (.ref f30) = true)
    {f31 : Addr} {od31 an31 : Option Addr} {sl31 : Array (Option Value)} {oc31 kV31 dc31 pm31 cd31 ct31 : Value}
    (a31 : PySem.W.nsIn K mainGlobals "greatest" = some (some (.ref f31))) (l31 : K.lookup f31 = some ⟨oc31, od31, .func (PySem.W.fnOf "greatest" "greatest" (defArgs s_greatest) (defBody s_greatest) (defScope s_greatest) .none kV31 dc31 pm31 an31 cd31 ct31), sl31⟩) (c31 : PySem.W.codeIn K cd31 "greatest" = true) (k31 : PySem.W.keepIn K (.ref f31) = true)
    {f32 : Addr} {od32 an32 : Option Addr} {sl32 : Array (Option Value)} {oc32 kV32 dc32 pm32 cd32 ct32 : Value}
    (a32 : PySem.W.nsIn K mainGlobals "late_most" = some (some (.ref f32))) (l32 : K.lookup f32 = some ⟨oc32, od32, .func (PySem.W.fnOf "late_most" "late_most" (defArgs s_late_most) (defBody s_late_most) (defScope s_late_most) .none kV32 dc32 pm32 an32 cd32 ct32), sl32⟩) (c32 : PySem.W.codeIn K cd32 "late_most" = true) (k32 : PySem.W.keepIn K (.ref f32) = true)
    {f33 : Addr} {od33 an33 : Option Addr} {sl33 : Array (Option Value)} {oc33 kV33 dc33 pm33 cd33 ct33 : Value}
    (a33 : PySem.W.nsIn K mainGlobals "told_passed" = some (some (.ref f33))) (l33 : K.lookup f33 = some ⟨oc33, od33, .func (PySem.W.fnOf "told_passed" "told_passed" (defArgs s_told_passed) (defBody s_told_passed) (defScope s_told_passed) .none kV33 dc33 pm33 an33 cd33 ct33), sl33⟩) (c33 : PySem.W.codeIn K cd33 "told_passed" = true) (k33 : PySem.W.keepIn K (.ref f33) = true)
    {f34 : Addr} {od34 an34 : Option Addr} {sl34 : Array (Option Value)} {oc34 kV34 dc34 pm34 cd34 ct34 : Value}
    (a34 : PySem.W.nsIn K mainGlobals "lateness" = some (some (.ref f34))) (l34 : K.lookup f34 = some ⟨oc34, od34, .func (PySem.W.fnOf "lateness" "lateness" (defArgs s_lateness) (defBody s_lateness) (defScope s_lateness) .none kV34 dc34 pm34 an34 cd34 ct34), sl34⟩) (c34 : PySem.W.codeIn K cd34 "lateness" = true) (k34 : PySem.W.keepIn K (.ref f34) = true)
    {f35 : Addr} {od35 an35 : Option Addr} {sl35 : Array (Option Value)} {oc35 kV35 dc35 pm35 cd35 ct35 : Value}
    (a35 : PySem.W.nsIn K mainGlobals "let_in" = some (some (.ref f35))) (l35 : K.lookup f35 = some ⟨oc35, od35, .func (PySem.W.fnOf "let_in" "let_in" (defArgs s_let_in) (defBody s_let_in) (defScope s_let_in) .none kV35 dc35 pm35 an35 cd35 ct35), sl35⟩) (c35 : PySem.W.codeIn K cd35 "let_in" = true) (k35 : PySem.W.keepIn K (.ref f35) = true)
    {f36 : Addr} {od36 an36 : Option Addr} {sl36 : Array (Option Value)} {oc36 kV36 dc36 pm36 cd36 ct36 : Value}
    (a36 : PySem.W.nsIn K mainGlobals "passed_on" = some (some (.ref f36))) (l36 : K.lookup f36 = some ⟨oc36, od36, .func (PySem.W.fnOf "passed_on" "passed_on" (defArgs s_passed_on) (defBody s_passed_on) (defScope s_passed_on) .none kV36 dc36 pm36 an36 cd36 ct36), sl36⟩) (c36 : PySem.W.codeIn K cd36 "passed_on" = true) (k36 : PySem.W.keepIn K (.ref f36) = true)
    {f37 : Addr} {od37 an37 : Option Addr} {sl37 : Array (Option Value)} {oc37 kV37 dc37 pm37 cd37 ct37 : Value}
    (a37 : PySem.W.nsIn K mainGlobals "held_most" = some (some (.ref f37))) (l37 : K.lookup f37 = some ⟨oc37, od37, .func (PySem.W.fnOf "held_most" "held_most" (defArgs s_held_most) (defBody s_held_most) (defScope s_held_most) .none kV37 dc37 pm37 an37 cd37 ct37), sl37⟩) (c37 : PySem.W.codeIn K cd37 "held_most" = true) (k37 : PySem.W.keepIn K (.ref f37) = true)
    {f38 : Addr} {od38 an38 : Option Addr} {sl38 : Array (Option Value)} {oc38 kV38 dc38 pm38 cd38 ct38 : Value}
    (a38 : PySem.W.nsIn K mainGlobals "_law_are_lates_right" = some (some (.ref f38))) (l38 : K.lookup f38 = some ⟨oc38, od38, .func (PySem.W.fnOf "_law_are_lates_right" "_law_are_lates_right" (defArgs s__law_are_lates_right) (defBody s__law_are_lates_right) (defScope s__law_are_lates_right) .none kV38 dc38 pm38 an38 cd38 ct38), sl38⟩) (c38 : PySem.W.codeIn K cd38 "_law_are_lates_right" = true) (k38 : PySem.W.keepIn K (.ref f38) = true)
    {f39 : Addr} {od39 an39 : Option Addr} {sl39 : Array (Option Value)} {oc39 kV39 dc39 pm39 cd39 ct39 : Value}
    (a39 : PySem.W.nsIn K mainGlobals "law" = some (some (.ref f39))) (l39 : K.lookup f39 = some ⟨oc39, od39, .func (PySem.W.fnOf "law" "law" (defArgs s_law) (defBody s_law) (defScope s_law) .none kV39 dc39 pm39 an39 cd39 ct39), sl39⟩) (c39 : PySem.W.codeIn K cd39 "law" = true) (k39 : PySem.W.keepIn K (.ref f39) = true)
    {t_FITS : Tok} (v_FITS : PySem.W.nsIn K mainGlobals "FITS" = some (some (.str "fits" t_FITS)))
    {t_LATE : Tok} (v_LATE : PySem.W.nsIn K mainGlobals "LATE" = some (some (.str "late" t_LATE)))
    {t_MORE : Tok} (v_MORE : PySem.W.nsIn K mainGlobals "MORE" = some (some (.str "more" t_MORE)))
    {t_MOST_BURST : Tok} (v_MOST_BURST : PySem.W.nsIn K mainGlobals "MOST_BURST" = some (some (.int 400 t_MOST_BURST)))
    {t_MOST_LATE : Tok} (v_MOST_LATE : PySem.W.nsIn K mainGlobals "MOST_LATE" = some (some (.int 200 t_MOST_LATE)))
    {t_MOST_PAIRS : Tok} (v_MOST_PAIRS : PySem.W.nsIn K mainGlobals "MOST_PAIRS" = some (some (.int 8 t_MOST_PAIRS)))
    {t_MOST_RATE : Tok} (v_MOST_RATE : PySem.W.nsIn K mainGlobals "MOST_RATE" = some (some (.int 100 t_MOST_RATE)))
    {t_MOST_SIZE : Tok} (v_MOST_SIZE : PySem.W.nsIn K mainGlobals "MOST_SIZE" = some (some (.int 1000 t_MOST_SIZE)))
    {t_MOST_TICKS : Tok} (v_MOST_TICKS : PySem.W.nsIn K mainGlobals "MOST_TICKS" = some (some (.int 500 t_MOST_TICKS)))
    {t_MOST_WAITED : Tok} (v_MOST_WAITED : PySem.W.nsIn K mainGlobals "MOST_WAITED" = some (some (.int 2000 t_MOST_WAITED)))
    {t_NEVER : Tok} (v_NEVER : PySem.W.nsIn K mainGlobals "NEVER" = some (some (.str "never" t_NEVER)))
    {t_THREE : Tok} (v_THREE : PySem.W.nsIn K mainGlobals "THREE" = some (some (.int 3 t_THREE)))
    (z_abs : PySem.W.nsIn K mainGlobals "abs" = some none)
    (z_all : PySem.W.nsIn K mainGlobals "all" = some none)
    (z_any : PySem.W.nsIn K mainGlobals "any" = some none)
    (z_bool : PySem.W.nsIn K mainGlobals "bool" = some none)
    (z_enumerate : PySem.W.nsIn K mainGlobals "enumerate" = some none)
    (z_int : PySem.W.nsIn K mainGlobals "int" = some none)
    (z_isinstance : PySem.W.nsIn K mainGlobals "isinstance" = some none)
    (z_len : PySem.W.nsIn K mainGlobals "len" = some none)
    (z_list : PySem.W.nsIn K mainGlobals "list" = some none)
    (z_max : PySem.W.nsIn K mainGlobals "max" = some none)
    (z_min : PySem.W.nsIn K mainGlobals "min" = some none)
    (z_range : PySem.W.nsIn K mainGlobals "range" = some none)
    (z_repr : PySem.W.nsIn K mainGlobals "repr" = some none)
    (z_sorted : PySem.W.nsIn K mainGlobals "sorted" = some none)
    (z_str : PySem.W.nsIn K mainGlobals "str" = some none)
    (z_sum : PySem.W.nsIn K mainGlobals "sum" = some none)
    (z_tuple : PySem.W.nsIn K mainGlobals "tuple" = some none)
    (z_zip : PySem.W.nsIn K mainGlobals "zip" = some none) :
    ∃ fd : FuncData, (∀ (s : Shared) (v : Value), BindsTo s fd ⟨[v], []⟩ [("script", v)]) ∧ ∀ base : Heap, K.In base → base.Ns mainGlobals mg → FnOk l.prog w K mg base CX0 6 fa fd ["script"] (lawSp K) := by
  have e := hfa.symm.trans (PySem.W.mg_of X G a39)
  cases e
  have B : Bi mg := ⟨PySem.W.mg_none_of X G z_abs, PySem.W.mg_none_of X G z_all, PySem.W.mg_none_of X G z_any, PySem.W.mg_none_of X G z_bool, PySem.W.mg_none_of X G z_enumerate, PySem.W.mg_none_of X G z_int, PySem.W.mg_none_of X G z_isinstance, PySem.W.mg_none_of X G z_len, PySem.W.mg_none_of X G z_list, PySem.W.mg_none_of X G z_max, PySem.W.mg_none_of X G z_min, PySem.W.mg_none_of X G z_range, PySem.W.mg_none_of X G z_repr, PySem.W.mg_none_of X G z_sorted, PySem.W.mg_none_of X G z_str, PySem.W.mg_none_of X G z_sum, PySem.W.mg_none_of X G z_tuple, PySem.W.mg_none_of X G z_zip⟩
  refine ⟨PySem.W.fnOf "law" "law" (defArgs s_law) (defBody s_law) (defScope s_law) .none kV39 dc39 pm39 an39 cd39 ct39, fun s v => .of_eq rfl, fun base _ _ => ?_⟩
  have F0 := fun_mk (st := s__law_cells) l0 c0 k0
  have C__law_cells : Def l.prog w K mg base "_law_cells" 1 ["script", "most"] 2 m__law_cells := Def.mk X G (ok__law_cells F0 B ) a0 k0 (F0.binds (ps := ["script", "most"]) fun _ _ _ _ _ _ us hl => match us, hl with | [_, _], _ => rfl)
  have F1 := fun_mk (st := s__law_pot) l1 c1 k1
  have C__law_pot : Def l.prog w K mg base "_law_pot" 1 ["script", "place"] 2 m__law_pot := Def.mk X G (ok__law_pot F1 B ) a1 k1 (F1.binds (ps := ["script", "place"]) fun _ _ _ _ _ _ us hl => match us, hl with | [_, _], _ => rfl)
  have F2 := fun_mk (st := s__law_take) l2 c2 k2
  have C__law_take : Def l.prog w K mg base "_law_take" 1 ["pot", "upto"] 2 m__law_take := Def.mk X G (ok__law_take F2 B ) a2 k2 (F2.binds (ps := ["pot", "upto"]) fun _ _ _ _ _ _ us hl => match us, hl with | [_, _], _ => rfl)
  have F3 := fun_mk (st := s__law_of) l3 c3 k3
  have C__law_of : Def l.prog w K mg base "_law_of" 2 ["pot", "some"] 2 m__law_of := Def.mk X G (ok__law_of F3 B C__law_take) a3 k3 (F3.binds (ps := ["pot", "some"]) fun _ _ _ _ _ _ us hl => match us, hl with | [_, _], _ => rfl)
  have F4 := fun_mk (st := s__law_traffic) l4 c4 k4
  have C__law_traffic : Def l.prog w K mg base "_law_traffic" 3 ["pot"] 1 m__law_traffic := Def.mk X G (ok__law_traffic F4 B C__law_of C__law_take) a4 k4 (F4.binds (ps := ["pot"]) fun _ _ _ _ _ _ us hl => match us, hl with | [_], _ => rfl)
  have F5 := fun_mk (st := s_is_int) l5 c5 k5
  have C_is_int : Def l.prog w K mg base "is_int" 1 ["value", "low", "high"] 3 m_is_int := Def.mk X G (ok_is_int F5 B ) a5 k5 (F5.binds (ps := ["value", "low", "high"]) fun _ _ _ _ _ _ us hl => match us, hl with | [_, _, _], _ => rfl)
  have F6 := fun_mk (st := s_is_curve) l6 c6 k6
  have C_is_curve : Def l.prog w K mg base "is_curve" 2 ["value"] 1 m_is_curve := Def.mk X G (ok_is_curve F6 B C_is_int ⟨_, PySem.W.mg_of X G v_MOST_BURST⟩ ⟨_, PySem.W.mg_of X G v_MOST_PAIRS⟩ ⟨_, PySem.W.mg_of X G v_MOST_RATE⟩) a6 k6 (F6.binds (ps := ["value"]) fun _ _ _ _ _ _ us hl => match us, hl with | [_], _ => rfl)
  have F7 := fun_mk (st := s_look_at_curve) l7 c7 k7
  have C_look_at_curve : Def l.prog w K mg base "look_at_curve" 3 ["curve"] 1 m_look_at_curve := Def.mk X G (ok_look_at_curve F7 B C_is_curve) a7 k7 (F7.binds (ps := ["curve"]) fun _ _ _ _ _ _ us hl => match us, hl with | [_], _ => rfl)
  have F8 := fun_mk (st := s_is_traffic) l8 c8 k8
  have C_is_traffic : Def l.prog w K mg base "is_traffic" 2 ["value"] 1 m_is_traffic := Def.mk X G (ok_is_traffic F8 B C_is_int ⟨_, PySem.W.mg_of X G v_MOST_SIZE⟩ ⟨_, PySem.W.mg_of X G v_MOST_TICKS⟩) a8 k8 (F8.binds (ps := ["value"]) fun _ _ _ _ _ _ us hl => match us, hl with | [_], _ => rfl)
  have F9 := fun_mk (st := s_look_at_traffic) l9 c9 k9
  have C_look_at_traffic : Def l.prog w K mg base "look_at_traffic" 3 ["traffic"] 1 m_look_at_traffic := Def.mk X G (ok_look_at_traffic F9 B C_is_traffic) a9 k9 (F9.binds (ps := ["traffic"]) fun _ _ _ _ _ _ us hl => match us, hl with | [_], _ => rfl)
  have F10 := fun_mk (st := s_buckets_of) l10 c10 k10
  have C_buckets_of : Def l.prog w K mg base "buckets_of" 1 ["curve"] 1 m_buckets_of := Def.mk X G (ok_buckets_of F10 B ) a10 k10 (F10.binds (ps := ["curve"]) fun _ _ _ _ _ _ us hl => match us, hl with | [_], _ => rfl)
  have F11 := fun_mk (st := s_told_let) l11 c11 k11
  have C_told_let : Def l.prog w K mg base "told_let" 2 ["curve", "traffic"] 2 m_told_let := Def.mk X G (ok_told_let F11 B C_buckets_of ⟨_, PySem.W.mg_of X G v_MOST_WAITED⟩) a11 k11 (F11.binds (ps := ["curve", "traffic"]) fun _ _ _ _ _ _ us hl => match us, hl with | [_, _], _ => rfl)
  have F12 := fun_mk (st := s_shaped) l12 c12 k12
  have C_shaped : Def l.prog w K mg base "shaped" 4 ["curve", "traffic"] 2 m_shaped := Def.mk X G (ok_shaped F12 B C_look_at_curve C_look_at_traffic C_told_let) a12 k12 (F12.binds (ps := ["curve", "traffic"]) fun _ _ _ _ _ _ us hl => match us, hl with | [_, _], _ => rfl)
  have F13 := fun_mk (st := s_told_at) l13 c13 k13
  have C_told_at : Def l.prog w K mg base "told_at" 1 ["curve", "ticks"] 2 m_told_at := Def.mk X G (ok_told_at F13 B ) a13 k13 (F13.binds (ps := ["curve", "ticks"]) fun _ _ _ _ _ _ us hl => match us, hl with | [_, _], _ => rfl)
  have F14 := fun_mk (st := s_too_much) l14 c14 k14
  have C_too_much : Def l.prog w K mg base "too_much" 2 ["curve", "traffic"] 2 m_too_much := Def.mk X G (ok_too_much F14 B C_told_at) a14 k14 (F14.binds (ps := ["curve", "traffic"]) fun _ _ _ _ _ _ us hl => match us, hl with | [_, _], _ => rfl)
  have F15 := fun_mk (st := s_fits) l15 c15 k15
  have C_fits : Def l.prog w K mg base "fits" 4 ["curve", "traffic"] 2 m_fits := Def.mk X G (ok_fits F15 B C_look_at_curve C_look_at_traffic C_too_much ⟨_, PySem.W.mg_of X G v_FITS⟩ ⟨_, PySem.W.mg_of X G v_MORE⟩) a15 k15 (F15.binds (ps := ["curve", "traffic"]) fun _ _ _ _ _ _ us hl => match us, hl with | [_, _], _ => rfl)
  have F16 := fun_mk (st := s_least_burst) l16 c16 k16
  have C_least_burst : Def l.prog w K mg base "least_burst" 4 ["traffic", "rate"] 2 m_least_burst := Def.mk X G (ok_least_burst F16 B C_look_at_traffic C_is_int ⟨_, PySem.W.mg_of X G v_MOST_RATE⟩) a16 k16 (F16.binds (ps := ["traffic", "rate"]) fun _ _ _ _ _ _ us hl => match us, hl with | [_, _], _ => rfl)
  have F17 := fun_mk (st := s__law_is_shaped_right) l17 c17 k17
  have C__law_is_shaped_right : Def l.prog w K mg base "_law_is_shaped_right" 5 ["pot", "traffic", "rate"] 3 m__law_is_shaped_right := Def.mk X G (ok__law_is_shaped_right F17 B C__law_take C_shaped C_fits C_least_burst) a17 k17 (F17.binds (ps := ["pot", "traffic", "rate"]) fun _ _ _ _ _ _ us hl => match us, hl with | [_, _, _], _ => rfl)
  have F18 := fun_mk (st := s__law_windows) l18 c18 k18
  have C__law_windows : Def l.prog w K mg base "_law_windows" 1 ["traffic"] 1 m__law_windows := Def.mk X G (ok__law_windows F18 B ) a18 k18 (F18.binds (ps := ["traffic"]) fun _ _ _ _ _ _ us hl => match us, hl with | [_], _ => rfl)
  have F19 := fun_mk (st := s__law_burst) l19 c19 k19
  have C__law_burst : Def l.prog w K mg base "_law_burst" 2 ["traffic", "rate"] 2 m__law_burst := Def.mk X G (ok__law_burst F19 B C__law_windows) a19 k19 (F19.binds (ps := ["traffic", "rate"]) fun _ _ _ _ _ _ us hl => match us, hl with | [_, _], _ => rfl)
  have F20 := fun_mk (st := s__law_is_bool) l20 c20 k20
  have C__law_is_bool : Def l.prog w K mg base "_law_is_bool" 1 ["told", "due"] 2 m__law_is_bool := Def.mk X G (ok__law_is_bool F20 B ) a20 k20 (F20.binds (ps := ["told", "due"]) fun _ _ _ _ _ _ us hl => match us, hl with | [_, _], _ => rfl)
  have F21 := fun_mk (st := s_is_server) l21 c21 k21
  have C_is_server : Def l.prog w K mg base "is_server" 2 ["value"] 1 m_is_server := Def.mk X G (ok_is_server F21 B C_is_int ⟨_, PySem.W.mg_of X G v_MOST_LATE⟩ ⟨_, PySem.W.mg_of X G v_MOST_RATE⟩) a21 k21 (F21.binds (ps := ["value"]) fun _ _ _ _ _ _ us hl => match us, hl with | [_], _ => rfl)
  have F22 := fun_mk (st := s_look_at_server) l22 c22 k22
  have C_look_at_server : Def l.prog w K mg base "look_at_server" 3 ["server"] 1 m_look_at_server := Def.mk X G (ok_look_at_server F22 B C_is_server) a22 k22 (F22.binds (ps := ["server"]) fun _ _ _ _ _ _ us hl => match us, hl with | [_], _ => rfl)
  have F23 := fun_mk (st := s_told_served) l23 c23 k23
  have C_told_served : Def l.prog w K mg base "told_served" 1 ["server", "ticks"] 2 m_told_served := Def.mk X G (ok_told_served F23 B ) a23 k23 (F23.binds (ps := ["server", "ticks"]) fun _ _ _ _ _ _ us hl => match us, hl with | [_, _], _ => rfl)
  have F24 := fun_mk (st := s_held) l24 c24 k24
  have C_held : Def l.prog w K mg base "held" 4 ["server", "traffic"] 2 m_held := Def.mk X G (ok_held F24 B C_look_at_server C_look_at_traffic C_told_served) a24 k24 (F24.binds (ps := ["server", "traffic"]) fun _ _ _ _ _ _ us hl => match us, hl with | [_, _], _ => rfl)
  have F25 := fun_mk (st := s_shows_fits) l25 c25 k25
  have C_shows_fits : Def l.prog w K mg base "shows_fits" 4 ["curve", "traffic", "value"] 3 m_shows_fits := Def.mk X G (ok_shows_fits F25 B C_look_at_curve C_look_at_traffic C_too_much C_is_int C_told_at ⟨_, PySem.W.mg_of X G v_FITS⟩ ⟨_, PySem.W.mg_of X G v_MORE⟩ ⟨_, PySem.W.mg_of X G v_MOST_TICKS⟩ ⟨_, PySem.W.mg_of X G v_THREE⟩) a25 k25 (F25.binds (ps := ["curve", "traffic", "value"]) fun _ _ _ _ _ _ us hl => match us, hl with | [_, _, _], _ => rfl)
  have F26 := fun_mk (st := s__law_is_burst_right) l26 c26 k26
  have C__law_is_burst_right : Def l.prog w K mg base "_law_is_burst_right" 5 ["pot", "traffic", "rate"] 3 m__law_is_burst_right := Def.mk X G (ok__law_is_burst_right F26 B C__law_burst C_least_burst C__law_of C__law_take C_fits C_shows_fits C_shaped C__law_is_bool C__law_windows C_held C__law_traffic) a26 k26 (F26.binds (ps := ["pot", "traffic", "rate"]) fun _ _ _ _ _ _ us hl => match us, hl with | [_, _, _], _ => rfl)
  have F27 := fun_mk (st := s__law_late) l27 c27 k27
  have C__law_late : Def l.prog w K mg base "_law_late" 1 ["server", "traffic"] 2 m__law_late := Def.mk X G (ok__law_late F27 B ) a27 k27 (F27.binds (ps := ["server", "traffic"]) fun _ _ _ _ _ _ us hl => match us, hl with | [_, _], _ => rfl)
  have F28 := fun_mk (st := s_late_by) l28 c28 k28
  have C_late_by : Def l.prog w K mg base "late_by" 1 ["server", "need", "ticks"] 3 m_late_by := Def.mk X G (ok_late_by F28 B ) a28 k28 (F28.binds (ps := ["server", "need", "ticks"]) fun _ _ _ _ _ _ us hl => match us, hl with | [_, _, _], _ => rfl)
  have F29 := fun_mk (st := s_ticks_of) l29 c29 k29
  have C_ticks_of : Def l.prog w K mg base "ticks_of" 1 ["curve"] 1 m_ticks_of := Def.mk X G (ok_ticks_of F29 B ) a29 k29 (F29.binds (ps := ["curve"]) fun _ _ _ _ _ _ us hl => match us, hl with | [_], _ => rfl)
  have F30 := fun_mk (st := s_told_late) l30 c30 k30
  have C_told_late : Def l.prog w K mg base "told_late" 2 ["curve", "server"] 2 m_told_late := Def.mk X G (ok_told_late F30 B C_told_at C_ticks_of C_late_by) a30 k30 (F30.binds (ps := ["curve", "server"]) fun _ _ _ _ _ _ us hl => match us, hl with | [_, _], _ => rfl)
  have F31 := fun_mk (st := s_greatest) l31 c31 k31
  have C_greatest : Def l.prog w K mg base "greatest" 2 ["curve", "ticks"] 2 m_greatest := Def.mk X G (ok_greatest F31 B C_told_at) a31 k31 (F31.binds (ps := ["curve", "ticks"]) fun _ _ _ _ _ _ us hl => match us, hl with | [_, _], _ => rfl)
  have F32 := fun_mk (st := s_late_most) l32 c32 k32
  have C_late_most : Def l.prog w K mg base "late_most" 4 ["curve", "server"] 2 m_late_most := Def.mk X G (ok_late_most F32 B C_look_at_curve C_look_at_server C_told_late C_ticks_of C_late_by C_told_at C_greatest ⟨_, PySem.W.mg_of X G v_LATE⟩ ⟨_, PySem.W.mg_of X G v_NEVER⟩) a32 k32 (F32.binds (ps := ["curve", "server"]) fun _ _ _ _ _ _ us hl => match us, hl with | [_, _], _ => rfl)
  have F33 := fun_mk (st := s_told_passed) l33 c33 k33
  have C_told_passed : Def l.prog w K mg base "told_passed" 2 ["server", "traffic"] 2 m_told_passed := Def.mk X G (ok_told_passed F33 B C_late_by) a33 k33 (F33.binds (ps := ["server", "traffic"]) fun _ _ _ _ _ _ us hl => match us, hl with | [_, _], _ => rfl)
  have F34 := fun_mk (st := s_lateness) l34 c34 k34
  have C_lateness : Def l.prog w K mg base "lateness" 4 ["server", "traffic"] 2 m_lateness := Def.mk X G (ok_lateness F34 B C_look_at_server C_look_at_traffic C_told_passed) a34 k34 (F34.binds (ps := ["server", "traffic"]) fun _ _ _ _ _ _ us hl => match us, hl with | [_, _], _ => rfl)
  have F35 := fun_mk (st := s_let_in) l35 c35 k35
  have C_let_in : Def l.prog w K mg base "let_in" 4 ["curve", "ticks"] 2 m_let_in := Def.mk X G (ok_let_in F35 B C_look_at_curve C_is_int C_told_at) a35 k35 (F35.binds (ps := ["curve", "ticks"]) fun _ _ _ _ _ _ us hl => match us, hl with | [_, _], _ => rfl)
  have F36 := fun_mk (st := s_passed_on) l36 c36 k36
  have C_passed_on : Def l.prog w K mg base "passed_on" 4 ["server", "ticks"] 2 m_passed_on := Def.mk X G (ok_passed_on F36 B C_look_at_server C_is_int C_told_served) a36 k36 (F36.binds (ps := ["server", "ticks"]) fun _ _ _ _ _ _ us hl => match us, hl with | [_, _], _ => rfl)
  have F37 := fun_mk (st := s_held_most) l37 c37 k37
  have C_held_most : Def l.prog w K mg base "held_most" 4 ["curve", "server"] 2 m_held_most := Def.mk X G (ok_held_most F37 B C_look_at_curve C_look_at_server C_ticks_of C_told_at C_told_served) a37 k37 (F37.binds (ps := ["curve", "server"]) fun _ _ _ _ _ _ us hl => match us, hl with | [_, _], _ => rfl)
  have F38 := fun_mk (st := s__law_are_lates_right) l38 c38 k38
  have C__law_are_lates_right : Def l.prog w K mg base "_law_are_lates_right" 5 ["pot", "traffic", "rate"] 3 m__law_are_lates_right := Def.mk X G (ok__law_are_lates_right F38 B C__law_take C_lateness C__law_late C__law_burst C_late_most C_held_most C_held C_let_in C_passed_on) a38 k38 (F38.binds (ps := ["pot", "traffic", "rate"]) fun _ _ _ _ _ _ us hl => match us, hl with | [_, _, _], _ => rfl)
  have F39 := fun_mk (st := s_law) l39 c39 k39
  exact ok_law F39 B C__law_cells C__law_pot C__law_take C__law_of C__law_traffic C__law_is_burst_right C__law_are_lates_right C__law_is_shaped_right
end G50
set_option maxHeartbeats 4000000
/-! E50: the end. -/
namespace G50
open PySem PySem.Spec PyProof.Rows L2 Pv
theorem law_sp {K : PySem.W.Frag} {H : Hp} {a : Addr} {ns : List Int} (hO : Only H) (hS : SqL K H a (ns.map V.int)) : lawSp K [.ref a] H (fun v _ => v = .bl true) fun _ _ _ => False := by
  have hr : RoL K H a (ns.map V.int) := by
    rcases hS with (h | ⟨o, h⟩) | h
    · rcases hO a with e | ⟨o, xs, e⟩
      · rw [e] at h; cases h
      · rw [e] at h; cases h
    · exact .inl ⟨o, h⟩
    · exact .inr h
  refine ⟨[], [.ro (ns.map PyData.int)], [], .p (.bool true), [], rfl, .cons (.ro hr Rps.ints) .nil, ⟨rfl, List.nodup_nil, fun n a o e => by simp at e⟩, law_ok ns, fun v H' A' _ _ _ r => ?_⟩
  cases r with
  | p r => cases r; rfl
theorem walk {l : PySem.W.OpenLaw} {q : Program} {loose : List Str} {XP : (Str → Option Value) → Heap → Prop} {YP : World → Heap → Prop} {d : DefRec} {K : Params → PySem.W.Frag} (hn : l.most = some 63) (hdf : d.params.defaults = [])
    (hY : ∀ (w : World) (h : Heap), YP w h → (K w.params).In h)
    (F : ∀ (w : World) (mg : Str → Option Value) (fa : Addr) (h : Heap), (K w.params).In h → h.Ns mainGlobals mg → mg d.name = some (.ref fa) →
      ∃ fd : FuncData, (∀ (s : Shared) (u : Value), BindsTo s fd ⟨[u], []⟩ [("script", u)]) ∧ ∀ base : Heap, (K w.params).In base → base.Ns mainGlobals mg → FnOk l.prog w (K w.params) mg base CX0 6 fa fd ["script"] (lawSp (K w.params))) :
    PySem.W.WalkO q loose XP YP l.row.toRowW d [] (fun f vs => PySem.call f vs) :=
  L2.walk_of (n := 63) (k := 6) (x := "script") (CX := fun _ => CX0) (sp := fun w => lawSp (K w.params)) hn (by decide) hdf ⟨rfl, by decide, by decide⟩ hY F (fun _ _ _ _ _ hO hS => law_sp hO hS) fun _ _ _ _ _ z => z
end G50

open PySem PySem.W PyProof.Rows in
set_option maxRecDepth 100000 in
set_option maxHeartbeats 0 in
theorem PySem.Challenge.cw_howeveritpasses_k50_whole_bursts_and_lat_holds : PySem.Challenge.rw_howeveritpasses_k50_whole_bursts_and_lat.Holds := by
  w_on; o_law; k_head; (case hw => w_witness2)
  k_fill
  refine G50.walk (l := PySem.Challenge.rw_howeveritpasses_k50_whole_bursts_and_lat) rfl rfl (fun w h Y => PySem.W.kIn_of Y) ?F
  case F =>
    intro w mg fa h KX G hmg
    refine' G50.all_mk KX G hmg ?a0 ?l0 ?c0 ?k0 ?a1 ?l1 ?c1 ?k1 ?a2 ?l2 ?c2 ?k2 ?a3 ?l3 ?c3 ?k3 ?a4 ?l4 ?c4 ?k4 ?a5 ?l5 ?c5 ?k5 ?a6 ?l6 ?c6 ?k6 ?a7 ?l7 ?c7 ?k7 ?a8 ?l8 ?c8 ?k8 ?a9 ?l9 ?c9 ?k9 ?a10 ?l10 ?c10 ?k10 ?a11 ?l11 ?c11 ?k11 ?a12 ?l12 ?c12 ?k12 ?a13 ?l13 ?c13 ?k13 ?a14 ?l14 ?c14 ?k14 ?a15 ?l15 ?c15 ?k15 ?a16 ?l16 ?c16 ?k16 ?a17 ?l17 ?c17 ?k17 ?a18 ?l18 ?c18 ?k18 ?a19 ?l19 ?c19 ?k19 ?a20 ?l20 ?c20 ?k20 ?a21 ?l21 ?c21 ?k21 ?a22 ?l22 ?c22 ?k22 ?a23 ?l23 ?c23 ?k23 ?a24 ?l24 ?c24 ?k24 ?a25 ?l25 ?c25 ?k25 ?a26 ?l26 ?c26 ?k26 ?a27 ?l27 ?c27 ?k27 ?a28 ?l28 ?c28 ?k28 ?a29 ?l29 ?c29 ?k29 ?a30 ?l30 ?c30 ?k30 ?a31 ?l31 ?c31 ?k31 ?a32 ?l32 ?c32 ?k32 ?a33 ?l33 ?c33 ?k33 ?a34 ?l34 ?c34 ?k34 ?a35 ?l35 ?c35 ?k35 ?a36 ?l36 ?c36 ?k36 ?a37 ?l37 ?c37 ?k37 ?a38 ?l38 ?c38 ?k38 ?a39 ?l39 ?c39 ?k39 ?v_FITS ?v_LATE ?v_MORE ?v_MOST_BURST ?v_MOST_LATE ?v_MOST_PAIRS ?v_MOST_RATE ?v_MOST_SIZE ?v_MOST_TICKS ?v_MOST_WAITED ?v_NEVER ?v_THREE ?z_abs ?z_all ?z_any ?z_bool ?z_enumerate ?z_int ?z_isinstance ?z_len ?z_list ?z_max ?z_min ?z_range ?z_repr ?z_sorted ?z_str ?z_sum ?z_tuple ?z_zip
    (case a0 => k_is)
    (case l0 => k_is)
    (case c0 => k_is)
    (case k0 => k_is)
    (case a1 => k_is)
    (case l1 => k_is)
    (case c1 => k_is)
    (case k1 => k_is)
    (case a2 => k_is)
    (case l2 => k_is)
    (case c2 => k_is)
    (case k2 => k_is)
    (case a3 => k_is)
    (case l3 => k_is)
    (case c3 => k_is)
    (case k3 => k_is)
    (case a4 => k_is)
    (case l4 => k_is)
    (case c4 => k_is)
    (case k4 => k_is)
    (case a5 => k_is)
    (case l5 => k_is)
    (case c5 => k_is)
    (case k5 => k_is)
    (case a6 => k_is)
    (case l6 => k_is)
    (case c6 => k_is)
    (case k6 => k_is)
    (case a7 => k_is)
    (case l7 => k_is)
    (case c7 => k_is)
    (case k7 => k_is)
    (case a8 => k_is)
    (case l8 => k_is)
    (case c8 => k_is)
    (case k8 => k_is)
    (case a9 => k_is)
    (case l9 => k_is)
    (case c9 => k_is)
    (case k9 => k_is)
    (case a10 => k_is)
    (case l10 => k_is)
    (case c10 => k_is)
    (case k10 => k_is)
    (case a11 => k_is)
    (case l11 => k_is)
    (case c11 => k_is)
    (case k11 => k_is)
    (case a12 => k_is)
    (case l12 => k_is)
    (case c12 => k_is)
    (case k12 => k_is)
    (case a13 => k_is)
    (case l13 => k_is)
    (case c13 => k_is)
    (case k13 => k_is)
    (case a14 => k_is)
    (case l14 => k_is)
    (case c14 => k_is)
    (case k14 => k_is)
    (case a15 => k_is)
    (case l15 => k_is)
    (case c15 => k_is)
    (case k15 => k_is)
    (case a16 => k_is)
    (case l16 => k_is)
    (case c16 => k_is)
    (case k16 => k_is)
    (case a17 => k_is)
    (case l17 => k_is)
    (case c17 => k_is)
    (case k17 => k_is)
    (case a18 => k_is)
    (case l18 => k_is)
    (case c18 => k_is)
    (case k18 => k_is)
    (case a19 => k_is)
    (case l19 => k_is)
    (case c19 => k_is)
    (case k19 => k_is)
    (case a20 => k_is)
    (case l20 => k_is)
    (case c20 => k_is)
    (case k20 => k_is)
    (case a21 => k_is)
    (case l21 => k_is)
    (case c21 => k_is)
    (case k21 => k_is)
    (case a22 => k_is)
    (case l22 => k_is)
    (case c22 => k_is)
    (case k22 => k_is)
    (case a23 => k_is)
    (case l23 => k_is)
    (case c23 => k_is)
    (case k23 => k_is)
    (case a24 => k_is)
    (case l24 => k_is)
    (case c24 => k_is)
    (case k24 => k_is)
    (case a25 => k_is)
    (case l25 => k_is)
    (case c25 => k_is)
    (case k25 => k_is)
    (case a26 => k_is)
    (case l26 => k_is)
    (case c26 => k_is)
    (case k26 => k_is)
    (case a27 => k_is)
    (case l27 => k_is)
    (case c27 => k_is)
    (case k27 => k_is)
    (case a28 => k_is)
    (case l28 => k_is)
    (case c28 => k_is)
    (case k28 => k_is)
    (case a29 => k_is)
    (case l29 => k_is)
    (case c29 => k_is)
    (case k29 => k_is)
    (case a30 => k_is)
    (case l30 => k_is)
    (case c30 => k_is)
    (case k30 => k_is)
    (case a31 => k_is)
    (case l31 => k_is)
    (case c31 => k_is)
    (case k31 => k_is)
    (case a32 => k_is)
    (case l32 => k_is)
    (case c32 => k_is)
    (case k32 => k_is)
    (case a33 => k_is)
    (case l33 => k_is)
    (case c33 => k_is)
    (case k33 => k_is)
    (case a34 => k_is)
    (case l34 => k_is)
    (case c34 => k_is)
    (case k34 => k_is)
    (case a35 => k_is)
    (case l35 => k_is)
    (case c35 => k_is)
    (case k35 => k_is)
    (case a36 => k_is)
    (case l36 => k_is)
    (case c36 => k_is)
    (case k36 => k_is)
    (case a37 => k_is)
    (case l37 => k_is)
    (case c37 => k_is)
    (case k37 => k_is)
    (case a38 => k_is)
    (case l38 => k_is)
    (case c38 => k_is)
    (case k38 => k_is)
    (case a39 => k_is)
    (case l39 => k_is)
    (case c39 => k_is)
    (case k39 => k_is)
    (case v_FITS => k_is)
    (case v_LATE => k_is)
    (case v_MORE => k_is)
    (case v_MOST_BURST => k_is)
    (case v_MOST_LATE => k_is)
    (case v_MOST_PAIRS => k_is)
    (case v_MOST_RATE => k_is)
    (case v_MOST_SIZE => k_is)
    (case v_MOST_TICKS => k_is)
    (case v_MOST_WAITED => k_is)
    (case v_NEVER => k_is)
    (case v_THREE => k_is)
    (case z_abs => k_is)
    (case z_all => k_is)
    (case z_any => k_is)
    (case z_bool => k_is)
    (case z_enumerate => k_is)
    (case z_int => k_is)
    (case z_isinstance => k_is)
    (case z_len => k_is)
    (case z_list => k_is)
    (case z_max => k_is)
    (case z_min => k_is)
    (case z_range => k_is)
    (case z_repr => k_is)
    (case z_sorted => k_is)
    (case z_str => k_is)
    (case z_sum => k_is)
    (case z_tuple => k_is)
    (case z_zip => k_is)
