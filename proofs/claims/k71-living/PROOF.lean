import PyProof.Rows.All
import Wide.All
import OpenK.AllK
import Wide.FinOn
import HandS.ForMost
import HandS.IsInst
import HandS.Style
import HandS.Conv
import HandS.TupAny
import HandS.TupMul
import HandS.Rev
import HandS.RevRange
import HandS.Zip
import HandS.SetFor
import HandS.Strs
import HandS.SortInts
import HandS.NoneIn
import HandS.DictEq
import HandS.More
import KE.GoesMore
import KE.GoesEnum
import KE.KDictZip
import KE.GoesZip
import KE.KDictList
import HandS.Keys
import HandS.DictComp
import KE.KStateDown
import HandS.Base
import HandS.Call
import HandS.Ends
import HandS.Words
import HandS.WordsExc
import HandS.Defaults
import HandS.Head0
import HandS.Head1
import HandS.Head2
import HandS.HeadEnd
import HandS.HeadHook1
import HandS.HeadHook2
import PySem.Challenge.RW_chainwright_k71_living_walked
set_option Elab.async false
set_option linter.all false
set_option maxRecDepth 100000
set_option maxHeartbeats 0
/-! Values as trees, objects in a store: how they lie in the abstract heap. -/
namespace Dn
open PySem PySem.Spec PyProof.Rows L2
/-- a value: tuples by what is in them, objects that change by their number in the store -/
inductive D where
  | non | bl (b : Bool) | int (i : Int) | str (s : Str) | tup (xs : List D) | ref (n : Nat)
/-- an object of the store -/
inductive O where
  | lst (xs : List D)
  | frl (xs : List D)
  | dic (kvs : List (Key × D))
  | frd (kvs : List (Key × D))
/-- the store -/
structure Sto where
  os : List O
def Sto.size (s : Sto) : Nat := s.os.length
def Sto.get (s : Sto) (i : Nat) : Option O := s.os[i]?
def Sto.set (s : Sto) (i : Nat) (o : O) : Sto := ⟨s.os.set i o⟩
def Sto.push (s : Sto) (o : O) : Sto := ⟨s.os ++ [o]⟩
theorem Sto.size_set (s : Sto) (i : Nat) (o : O) : (s.set i o).size = s.size := by simp [Sto.size, Sto.set]
theorem Sto.size_push (s : Sto) (o : O) : (s.push o).size = s.size + 1 := by simp [Sto.size, Sto.push]
theorem Sto.get_lt {s : Sto} {i : Nat} {o : O} (h : s.get i = some o) : i < s.size := by
  unfold Sto.get at h
  exact (List.getElem?_eq_some_iff.mp h).1
theorem Sto.get_set_same {s : Sto} {i : Nat} {o : O} (h : i < s.size) : (s.set i o).get i = some o := by
  unfold Sto.get Sto.set
  unfold Sto.size at h
  simp [h]
theorem Sto.get_set_ne {s : Sto} {i j : Nat} {o : O} (h : j ≠ i) : (s.set i o).get j = s.get j := by
  unfold Sto.get Sto.set
  simp [List.getElem?_set_ne (Ne.symm h)]
theorem Sto.get_push_new {s : Sto} {o : O} : (s.push o).get s.size = some o := by
  unfold Sto.get Sto.push Sto.size
  simp
theorem Sto.get_push_lt {s : Sto} {o : O} {i : Nat} (h : i < s.size) : (s.push o).get i = s.get i := by
  unfold Sto.get Sto.push
  unfold Sto.size at h
  simp [List.getElem?_append_left h]
theorem Sto.get_ge {s : Sto} {i : Nat} (h : s.size ≤ i) : s.get i = none := by
  unfold Sto.get
  unfold Sto.size at h
  simp [h]
/-- a list that is read alone: frozen, or written -/
def SqF (K : PySem.W.Frag) (H : Hp) (a : Addr) (xs : List V) : Prop := (∃ o, H a = some (.frz o (.lst xs))) ∨
  ∃ (o : Obj) (its : Array Value) (n : Nat), K.lookup a = some o ∧ o.cls = .type "list" ∧ o.dict = none ∧ o.data = .seq its n ∧ its.size ≤ sizeLine ∧ Vals xs its.toList
theorem SqF.sq {K : PySem.W.Frag} {H : Hp} {a : Addr} {xs : List V} (h : SqF K H a xs) : SqL K H a xs := by
  rcases h with ⟨o, h⟩ | h
  · exact .inl (.inr ⟨o, h⟩)
  · exact .inr h
/-- what may be written over: no tuple, no frozen list -/
def Fr (H : Hp) (p : Addr) : Prop := (∀ xs, H p ≠ some (.tup xs)) ∧ ∀ o x, H p ≠ some (.frz o x)
theorem Fr.none {H : Hp} {p : Addr} (h : H p = none) : Fr H p := ⟨fun _ e => (by rw [h] at e; cases e), fun _ _ e => (by rw [h] at e; cases e)⟩
theorem Fr.mut {H : Hp} {p : Addr} (h : Mut (H p)) : Fr H p := ⟨fun _ e => (by rw [e] at h; exact h), fun _ _ e => (by rw [e] at h; exact h)⟩
theorem SqF.upd {K : PySem.W.Frag} {H : Hp} {a p : Addr} {xs : List V} {o : HO} (hp : Fr H p) (h : SqF K H a xs) : SqF K (upd H p o) a xs := by
  rcases h with ⟨ob, h⟩ | h
  · refine .inl ⟨ob, ?_⟩
    rw [upd_ne]
    · exact h
    · rintro rfl
      exact hp.2 _ _ h
  · exact .inr h
/-! ### how a value lies in the heap -/
section
variable (K : PySem.W.Frag) (H : Hp) (α : Nat → Addr) (m : Nat)
mutual
def RD : D → V → Prop
  | .non, v => v = .non
  | .bl b, v => v = .bl b
  | .int i, v => v = .int i
  | .str s, v => v = .str s
  | .ref n, v => n < m ∧ v = .ref (α n)
  | .tup xs, v => ∃ a vs, v = .ref a ∧ SqT K H a vs ∧ RDs xs vs
def RDs : List D → List V → Prop
  | [], vs => vs = []
  | d :: ds, vs => ∃ v r, vs = v :: r ∧ RD d v ∧ RDs ds r
end
/-- a dict's pairs -/
def RKV : List (Key × D) → List (Key × V) → Prop
  | [], vs => vs = []
  | (k, d) :: ds, vs => ∃ v r, vs = (k, v) :: r ∧ RD K H α m d v ∧ RKV ds r
/-- an object of the store at its address -/
def RO (a : Addr) : O → Prop
  | .lst xs => ∃ vs, H a = some (.lst vs) ∧ RDs K H α m xs vs
  | .frl xs => ∃ vs, SqF K H a vs ∧ RDs K H α m xs vs
  | .dic kvs => ∃ vs, H a = some (.dK vs) ∧ RKV K H α m kvs vs
  | .frd kvs => ∃ o vs, H a = some (.frz o (.dK vs)) ∧ RKV K H α m kvs vs
end
def O.own : O → Bool
  | .frl _ => false
  | _ => true
/-- the store stands in the heap -/
structure Rel (K : PySem.W.Frag) (H : Hp) (α : Nat → Addr) (st : Sto) : Prop where
  obj : ∀ i o, st.get i = some o → RO K H α st.size (α i) o
  inj : ∀ i j o u, st.get i = some o → st.get j = some u → o.own = true → u.own = true → α i = α j → i = j
/-- what stays from one heap to another: tuples, frozen things -/
structure Ext (K : PySem.W.Frag) (H H' : Hp) : Prop where
  tup : ∀ a xs, SqT K H a xs → SqT K H' a xs
  frz : ∀ a o x, H a = some (.frz o x) → H' a = some (.frz o x)
theorem Ext.refl {K : PySem.W.Frag} {H : Hp} : Ext K H H := ⟨fun _ _ h => h, fun _ _ _ h => h⟩
theorem Ext.trans {K : PySem.W.Frag} {H H1 H2 : Hp} (a : Ext K H H1) (b : Ext K H1 H2) : Ext K H H2 := ⟨fun c xs h => b.tup c xs (a.tup c xs h), fun c o x h => b.frz c o x (a.frz c o x h)⟩
/-- from one state to a later one -/
structure Step (K : PySem.W.Frag) (H : Hp) (α : Nat → Addr) (m : Nat) (H' : Hp) (α' : Nat → Addr) (st' : Sto) : Prop where
  ext : Ext K H H'
  agree : ∀ i, i < m → α' i = α i
  le : m ≤ st'.size
  rel : Rel K H' α' st'
theorem Step.refl {K : PySem.W.Frag} {H : Hp} {α : Nat → Addr} {st : Sto} (r : Rel K H α st) : Step K H α st.size H α st := ⟨.refl, fun _ _ => rfl, Nat.le_refl _, r⟩
theorem Step.trans {K : PySem.W.Frag} {H H1 H2 : Hp} {α α1 α2 : Nat → Addr} {m : Nat} {s1 s2 : Sto} (a : Step K H α m H1 α1 s1) (b : Step K H1 α1 s1.size H2 α2 s2) : Step K H α m H2 α2 s2 :=
  ⟨a.ext.trans b.ext, fun i hi => (b.agree i (Nat.lt_of_lt_of_le hi a.le)).trans (a.agree i hi), Nat.le_trans a.le b.le, b.rel⟩
section
variable {K : PySem.W.Frag} {H H' : Hp} {α α' : Nat → Addr} {m m' : Nat}
mutual
theorem RD.mono (e : Ext K H H') (g : ∀ i, i < m → α' i = α i) (l : m ≤ m') : ∀ (d : D) (v : V), RD K H α m d v → RD K H' α' m' d v
  | .non, _, h => h
  | .bl _, _, h => h
  | .int _, _, h => h
  | .str _, _, h => h
  | .ref n, v, h => by
    unfold RD at h ⊢
    exact ⟨Nat.lt_of_lt_of_le h.1 l, by rw [g n h.1]; exact h.2⟩
  | .tup xs, v, h => by
    unfold RD at h ⊢
    obtain ⟨a, vs, hv, hs, hr⟩ := h
    exact ⟨a, vs, hv, e.tup _ _ hs, RDs.mono e g l xs vs hr⟩
theorem RDs.mono (e : Ext K H H') (g : ∀ i, i < m → α' i = α i) (l : m ≤ m') : ∀ (ds : List D) (vs : List V), RDs K H α m ds vs → RDs K H' α' m' ds vs
  | [], _, h => h
  | d :: ds, vs, h => by
    unfold RDs at h ⊢
    obtain ⟨v, r, hv, h1, h2⟩ := h
    exact ⟨v, r, hv, RD.mono e g l d v h1, RDs.mono e g l ds r h2⟩
end
theorem RKV.mono (e : Ext K H H') (g : ∀ i, i < m → α' i = α i) (l : m ≤ m') : ∀ (ds : List (Key × D)) (vs : List (Key × V)), RKV K H α m ds vs → RKV K H' α' m' ds vs
  | [], _, h => h
  | (k, d) :: ds, vs, h => by
    unfold RKV at h ⊢
    obtain ⟨v, r, hv, h1, h2⟩ := h
    exact ⟨v, r, hv, RD.mono e g l d v h1, RKV.mono e g l ds r h2⟩
theorem RD.step {st' : Sto} {d : D} {v : V} (s : Step K H α m H' α' st') (h : RD K H α m d v) : RD K H' α' st'.size d v := RD.mono s.ext s.agree s.le d v h
theorem RDs.step {st' : Sto} {d : List D} {v : List V} (s : Step K H α m H' α' st') (h : RDs K H α m d v) : RDs K H' α' st'.size d v := RDs.mono s.ext s.agree s.le d v h
theorem RDs.length : ∀ {ds : List D} {vs : List V}, RDs K H α m ds vs → vs.length = ds.length
  | [], _, h => by unfold RDs at h; rw [h]; rfl
  | d :: ds, vs, h => by
    unfold RDs at h
    obtain ⟨v, r, rfl, _, h2⟩ := h
    simp [RDs.length h2]
theorem RDs.get : ∀ {ds : List D} {vs : List V} {i : Nat} {d : D}, RDs K H α m ds vs → ds[i]? = some d → ∃ v, vs[i]? = some v ∧ RD K H α m d v
  | [], _, _, _, _, e => by simp at e
  | d :: ds, vs, 0, d', h, e => by
    unfold RDs at h
    obtain ⟨v, r, rfl, h1, h2⟩ := h
    simp at e
    subst e
    exact ⟨v, rfl, h1⟩
  | d :: ds, vs, i + 1, d', h, e => by
    unfold RDs at h
    obtain ⟨v, r, rfl, h1, h2⟩ := h
    obtain ⟨w, hw, hr⟩ := RDs.get (i := i) h2 (by simpa using e)
    exact ⟨w, by simpa using hw, hr⟩
theorem RDs.cons {d : D} {v : V} {ds : List D} {vs : List V} (h : RD K H α m d v) (t : RDs K H α m ds vs) : RDs K H α m (d :: ds) (v :: vs) := by
  unfold RDs
  exact ⟨v, vs, rfl, h, t⟩
theorem RDs.nil : RDs K H α m [] [] := by unfold RDs; rfl
theorem RDs.append : ∀ {ds es : List D} {vs ws : List V}, RDs K H α m ds vs → RDs K H α m es ws → RDs K H α m (ds ++ es) (vs ++ ws)
  | [], _, _, _, h, t => by unfold RDs at h; subst h; exact t
  | d :: ds, _, _, _, h, t => by
    unfold RDs at h
    obtain ⟨v, r, rfl, h1, h2⟩ := h
    exact .cons h1 (RDs.append h2 t)
theorem RDs.drop : ∀ {ds : List D} {vs : List V} (n : Nat), RDs K H α m ds vs → RDs K H α m (ds.drop n) (vs.drop n)
  | _, _, 0, h => h
  | [], _, _ + 1, h => by unfold RDs at h; subst h; exact .nil
  | d :: ds, _, n + 1, h => by
    unfold RDs at h
    obtain ⟨v, r, rfl, h1, h2⟩ := h
    exact RDs.drop n h2
theorem RDs.take : ∀ {ds : List D} {vs : List V} (n : Nat), RDs K H α m ds vs → RDs K H α m (ds.take n) (vs.take n)
  | _, _, 0, _ => by simpa using RDs.nil
  | [], _, _ + 1, h => by unfold RDs at h; subst h; exact .nil
  | d :: ds, _, n + 1, h => by
    unfold RDs at h
    obtain ⟨v, r, rfl, h1, h2⟩ := h
    exact .cons h1 (RDs.take n h2)
theorem RDs.set : ∀ {ds : List D} {vs : List V} (n : Nat) {d : D} {v : V}, RDs K H α m ds vs → RD K H α m d v → RDs K H α m (ds.set n d) (vs.set n v)
  | [], _, _, _, _, h, _ => by unfold RDs at h; subst h; exact .nil
  | e :: ds, _, 0, _, _, h, q => by
    unfold RDs at h
    obtain ⟨v, r, rfl, h1, h2⟩ := h
    exact .cons q h2
  | e :: ds, _, n + 1, _, _, h, q => by
    unfold RDs at h
    obtain ⟨v, r, rfl, h1, h2⟩ := h
    exact .cons h1 (RDs.set n h2 q)
theorem RDs.reverse : ∀ {ds : List D} {vs : List V}, RDs K H α m ds vs → RDs K H α m ds.reverse vs.reverse
  | [], _, h => by unfold RDs at h; subst h; exact .nil
  | d :: ds, _, h => by
    unfold RDs at h
    obtain ⟨v, r, rfl, h1, h2⟩ := h
    rw [List.reverse_cons, List.reverse_cons]
    exact RDs.append (RDs.reverse h2) (.cons h1 .nil)
theorem RDs.dropLast {ds : List D} {vs : List V} (h : RDs K H α m ds vs) : RDs K H α m ds.dropLast vs.dropLast := by
  rw [List.dropLast_eq_take, List.dropLast_eq_take, h.length]
  exact h.take _
theorem RDs.ne_nil {ds : List D} {vs : List V} (h : RDs K H α m ds vs) (n : ds ≠ []) : vs ≠ [] := by
  intro e
  have := h.length
  rw [e] at this
  cases ds with
  | nil => exact n rfl
  | cons a b => cases this
end
/-! ### changes -/
section
variable {K : PySem.W.Frag} {H : Hp} {α : Nat → Addr} {st : Sto}
theorem sqT_upd {a p : Addr} {xs : List V} {o : HO} (hp : Fr H p) (h : SqT K H a xs) : SqT K (upd H p o) a xs := by
  rcases h with (h | ⟨ob, h⟩) | h
  · refine .inl (.inl ?_)
    rw [upd_ne]
    · exact h
    · rintro rfl
      exact hp.1 _ h
  · refine .inl (.inr ⟨ob, ?_⟩)
    rw [upd_ne]
    · exact h
    · rintro rfl
      exact hp.2 _ _ h
  · exact .inr h
theorem ext_upd {p : Addr} {o : HO} (hp : Fr H p) : Ext K H (upd H p o) := ⟨fun _ _ h => sqT_upd hp h, fun a ob x h => by
  rw [upd_ne]
  · exact h
  · rintro rfl
    exact hp.2 _ _ h⟩
theorem RO.mono {p : Addr} {ho : HO} {α' : Nat → Addr} {m m' : Nat} {a : Addr} {o : O} (hp : Fr H p) (g : ∀ i, i < m → α' i = α i) (l : m ≤ m') (hk : o.own = true → a ≠ p) (h : RO K H α m a o) : RO K (upd H p ho) α' m' a o := by
  have e : Ext K H (upd H p ho) := ext_upd hp
  cases o with
  | lst xs => obtain ⟨vs, h1, h2⟩ := h; exact ⟨vs, by rw [upd_ne (hk rfl)]; exact h1, RDs.mono e g l _ _ h2⟩
  | frl xs => obtain ⟨vs, h1, h2⟩ := h; exact ⟨vs, h1.upd hp, RDs.mono e g l _ _ h2⟩
  | dic xs => obtain ⟨vs, h1, h2⟩ := h; exact ⟨vs, by rw [upd_ne (hk rfl)]; exact h1, RKV.mono e g l _ _ h2⟩
  | frd xs => obtain ⟨ob, vs, h1, h2⟩ := h; exact ⟨ob, vs, by rw [upd_ne (hk rfl)]; exact h1, RKV.mono e g l _ _ h2⟩
theorem RO.there {m : Nat} {a : Addr} {o : O} (ho : o.own = true) (h : RO K H α m a o) : H a ≠ none := by
  cases o with
  | lst xs => obtain ⟨vs, h1, h2⟩ := h; rw [h1]; simp
  | frl xs => cases ho
  | dic xs => obtain ⟨vs, h1, h2⟩ := h; rw [h1]; simp
  | frd xs => obtain ⟨ob, vs, h1, h2⟩ := h; rw [h1]; simp
/-- the addresses with one more -/
def addr (α : Nat → Addr) (n : Nat) (p : Addr) : Nat → Addr := fun i => if i = n then p else α i
theorem addr_lt {n i : Nat} {p : Addr} (h : i < n) : addr α n p i = α i := by unfold addr; rw [if_neg (by omega)]
theorem addr_new {n : Nat} {p : Addr} : addr α n p n = p := by unfold addr; rw [if_pos rfl]
/-- a new tuple -/
theorem Rel.tup {p : Addr} {vs : List V} (r : Rel K H α st) (hp : H p = none) : Step K H α st.size (upd H p (.tup vs)) α st :=
  ⟨ext_upd (.none hp), fun _ _ => rfl, Nat.le_refl _, ⟨fun i o e => (r.obj i o e).mono (.none hp) (fun _ _ => rfl) (Nat.le_refl _) fun ho z => (r.obj i o e).there ho (by rw [z]; exact hp), r.inj⟩⟩
/-- anything new that the store does not know -/
theorem Rel.any {p : Addr} {o : HO} (r : Rel K H α st) (hp : H p = none) : Step K H α st.size (upd H p o) α st :=
  ⟨ext_upd (.none hp), fun _ _ => rfl, Nat.le_refl _, ⟨fun i o e => (r.obj i o e).mono (.none hp) (fun _ _ => rfl) (Nat.le_refl _) fun ho z => (r.obj i o e).there ho (by rw [z]; exact hp), r.inj⟩⟩
/-- a new object -/
theorem Rel.new {p : Addr} {ho : HO} {o : O} (r : Rel K H α st) (hp : H p = none) (hw : o.own = true)
    (new : RO K (upd H p ho) (addr α st.size p) (st.size + 1) p o) : Step K H α st.size (upd H p ho) (addr α st.size p) (st.push o) := by
  refine ⟨ext_upd (.none hp), fun i hi => addr_lt hi, by rw [Sto.size_push]; omega, ⟨fun i u e => ?_, fun i j u w ei ej hu hw' q => ?_⟩⟩
  · have hi := Sto.get_lt e
    rw [Sto.size_push] at hi ⊢
    by_cases h : i = st.size
    · subst h
      rw [Sto.get_push_new] at e
      cases e
      rw [addr_new]
      exact new
    · have hl : i < st.size := by omega
      rw [Sto.get_push_lt hl] at e
      rw [addr_lt hl]
      exact (r.obj i u e).mono (.none hp) (fun j hj => addr_lt hj) (by omega) fun ho z => (r.obj i u e).there ho (by rw [z]; exact hp)
  · have hi := Sto.get_lt ei
    have hj := Sto.get_lt ej
    rw [Sto.size_push] at hi hj
    by_cases h : i = st.size
    · by_cases h2 : j = st.size
      · omega
      · have hl : j < st.size := by omega
        rw [Sto.get_push_lt hl] at ej
        subst h
        rw [addr_new, addr_lt hl] at q
        exact absurd (by rw [← q]; exact hp) ((r.obj j w ej).there hw')
    · have hl : i < st.size := by omega
      rw [Sto.get_push_lt hl] at ei
      by_cases h2 : j = st.size
      · subst h2
        rw [addr_new, addr_lt hl] at q
        exact absurd (by rw [q]; exact hp) ((r.obj i u ei).there hu)
      · have hl2 : j < st.size := by omega
        rw [Sto.get_push_lt hl2] at ej
        rw [addr_lt hl, addr_lt hl2] at q
        exact r.inj i j u w ei ej hu hw' q
/-- an object written -/
theorem Rel.write {i : Nat} {o o' : O} {ho : HO} (r : Rel K H α st) (e : st.get i = some o) (hw : o.own = true) (hw' : o'.own = true) (hp : Fr H (α i))
    (new : RO K (upd H (α i) ho) α st.size (α i) o') : Step K H α st.size (upd H (α i) ho) α (st.set i o') := by
  have hi := Sto.get_lt e
  have old : ∀ j u, (st.set i o').get j = some u → j ≠ i → st.get j = some u := fun j u ej hj => by rw [Sto.get_set_ne hj] at ej; exact ej
  refine ⟨ext_upd hp, fun _ _ => rfl, by rw [Sto.size_set]; omega, ⟨fun j u ej => ?_, fun j k u w ej ek hu hw2 q => ?_⟩⟩
  · rw [Sto.size_set]
    by_cases h : j = i
    · subst h
      rw [Sto.get_set_same hi] at ej
      cases ej
      exact new
    · have ej' := old j u ej h
      exact (r.obj j u ej').mono hp (fun _ _ => rfl) (Nat.le_refl _) fun hu z => h (r.inj j i u o ej' e hu hw z)
  · by_cases h : j = i
    · by_cases h2 : k = i
      · omega
      · subst h
        exact r.inj j k o w e (old k w ek h2) hw hw2 q
    · by_cases h2 : k = i
      · subst h2
        exact r.inj j k u o (old j u ej h) e hu hw q
      · exact r.inj j k u w (old j u ej h) (old k w ek h2) hu hw2 q
end
/-! ### the frame's names -/
abbrev Env := List (Option D)
def RE (K : PySem.W.Frag) (H : Hp) (α : Nat → Addr) (m : Nat) (σ : List (Option V)) (env : Env) : Prop :=
  σ.length = env.length ∧ ∀ (i : Nat) (d : D), env[i]? = some (some d) → ∃ v, σ[i]? = some (some v) ∧ RD K H α m d v
section
variable {K : PySem.W.Frag} {H H' : Hp} {α α' : Nat → Addr} {m m' : Nat} {σ : List (Option V)} {env : Env}
theorem RE.step {st' : Sto} (s : Step K H α m H' α' st') (h : RE K H α m σ env) : RE K H' α' st'.size σ env :=
  ⟨h.1, fun i d e => let ⟨v, h1, h2⟩ := h.2 i d e; ⟨v, h1, h2.step s⟩⟩
theorem RE.set {i : Nat} {d : D} {v : V} (h : RE K H α m σ env) (r : RD K H α m d v) : RE K H α m (σ.set i (some v)) (env.set i (some d)) := by
  refine ⟨by simp [h.1], fun j e q => ?_⟩
  by_cases hj : i = j
  · subst hj
    by_cases hl : i < env.length
    · rw [List.getElem?_set_self hl] at q
      cases q
      rw [List.getElem?_set_self (by rw [h.1]; exact hl)]
      exact ⟨v, rfl, r⟩
    · rw [List.getElem?_eq_none (by simpa using hl)] at q
      cases q
  · rw [List.getElem?_set_ne hj] at q ⊢
    exact h.2 j e q
theorem RE.clear {i : Nat} (h : RE K H α m σ env) : RE K H α m (σ.set i none) (env.set i none) := by
  refine ⟨by simp [h.1], fun j e q => ?_⟩
  by_cases hj : i = j
  · subst hj
    by_cases hl : i < env.length
    · rw [List.getElem?_set_self hl] at q
      cases q
    · rw [List.getElem?_eq_none (by simpa using hl)] at q
      cases q
  · rw [List.getElem?_set_ne hj] at q ⊢
    exact h.2 j e q
end
end Dn
/-! Expressions: what they come to, as functions of the names and the store. -/
namespace Dn
open PySem PySem.Spec PyProof.Rows L2
abbrev M (τ : Type) := Env → Sto → Option (τ × Sto)
abbrev SZ : Nat := sizeLine
def tD (K : PySem.W.Frag) (f : M D) : TE := fun σ H Q => ∃ α st env d st', Rel K H α st ∧ RE K H α st.size σ env ∧ f env st = some (d, st') ∧
  ∀ H' α' v, Step K H α st.size H' α' st' → RD K H' α' st'.size d v → Q v H'
def tDT (K : PySem.W.Frag) (f : M Bool) : TT := fun σ H Q => ∃ α st env b st', Rel K H α st ∧ RE K H α st.size σ env ∧ f env st = some (b, st') ∧
  ∀ H' α', Step K H α st.size H' α' st' → Q b H'
def tDA (K : PySem.W.Frag) (f : M (List D)) : TA := fun σ H Q => ∃ α st env ds st', Rel K H α st ∧ RE K H α st.size σ env ∧ f env st = some (ds, st') ∧
  ∀ H' α' vs, Step K H α st.size H' α' st' → RDs K H' α' st'.size ds vs → Q vs H'
theorem bindS {α β : Type} {o : Option α} {f : α → Option β} {b : β} (h : o.bind f = some b) : ∃ a, o = some a ∧ f a = some b := by
  cases o with
  | none => cases h
  | some a => exact ⟨a, rfl, h⟩
section
variable {X : Cx} {e : Expr} {pos : Pos}
theorem weE {t t' : TE} (h : PE X e t) (w : ∀ σ H Q, t' σ H Q → t σ H Q) : PE X e t' := ⟨fun pins s σ H Q I q => h.run pins s σ H Q I (w σ H Q q)⟩
theorem weT {t t' : TT} (h : PT X e t) (w : ∀ σ H Q, t' σ H Q → t σ H Q) : PT X e t' := ⟨fun pins s σ H Q I q => h.run pins s σ H Q I (w σ H Q q)⟩
theorem weW {t t' : TT} (h : PW X e t) (w : ∀ σ H Q, t' σ H Q → t σ H Q) : PW X e t' := ⟨fun wh pins s σ H Q I q => h.run wh pins s σ H Q I (w σ H Q q)⟩
theorem weA {es : List Expr} {t t' : TA} (h : PA X es t) (w : ∀ σ H Q, t' σ H Q → t σ H Q) : PA X es t' := ⟨fun pos pins s σ H Q I q => h.run pos pins s σ H Q I (w σ H Q q)⟩
theorem orE {t t' : TE} (h : PE X e t) (h' : PE X e t') : PE X e (fun σ H Q => t σ H Q ∨ t' σ H Q) :=
  ⟨fun pins s σ H Q I q => q.elim (h.run pins s σ H Q I) (h'.run pins s σ H Q I)⟩
end
/-! ### names, constants -/
def varF (i : Nat) : M D := fun env st => match env[i]? with
  | some (some d) => some (d, st)
  | _ => none
def cF (d : D) : M D := fun _ st => some (d, st)
section
variable {X : Cx} {pos : Pos}
theorem de_var (i : Nat) {x : Str} (hN : X.N[i]? = some x := by rfl) (hv : Vis X.env.scope x := by first | exact Or.inl rfl | exact Or.inr (Or.inl rfl) | exact Or.inr (Or.inr rfl)) (hd : (x == ("__debug__" : Str)) = false := by decide)
    (hcd : (x == ("__classdict__" : Str)) = false := by decide) : PE X (.Name x pos) (tD X.K (varF i)) := by
  refine weE (pe_var hN hv hd hcd) ?_
  rintro σ H Q ⟨α, st, env, d, st', rel, re, h, k⟩
  unfold varF at h
  split at h
  · rename_i d' hd'
    cases h
    obtain ⟨v, h1, h2⟩ := re.2 i _ hd'
    exact ⟨v, h1, k H α v (.refl rel) h2⟩
  · cases h
theorem tC_of {K : PySem.W.Frag} {d : D} {v : V} (hv : ∀ H α m, RD K H α m d v) : ∀ σ H Q, tD K (cF d) σ H Q → tC v σ H Q := by
  rintro σ H Q ⟨α, st, env, d', st', rel, re, h, k⟩
  cases h
  exact k H α v (.refl rel) (hv _ _ _)
theorem de_int {i : Int} {j} : PE X (.Constant (.int i) j pos) (tD X.K (cF (.int i))) := weE pe_int (tC_of fun _ _ _ => by unfold RD; rfl)
theorem de_bl {b : Bool} {j} : PE X (.Constant (.bool b) j pos) (tD X.K (cF (.bl b))) := weE pe_bl (tC_of fun _ _ _ => by unfold RD; rfl)
theorem de_non {j} : PE X (.Constant .none j pos) (tD X.K (cF .non)) := weE pe_non (tC_of fun _ _ _ => by unfold RD; rfl)
theorem de_str {x : Str} {j} : PE X (.Constant (.str x) j pos) (tD X.K (cF (.str x))) := weE pe_str (tC_of fun _ _ _ => by unfold RD; rfl)
/-- a module's constant -/
theorem de_glob {x : Str} {d : D} {v : V} {u : Value} (hg : Gl X x) (hm : X.mg x = some u) (r : RelV v u) (hv : ∀ H α m, RD X.K H α m d v) (hd : (x == ("__debug__" : Str)) = false := by decide) : PE X (.Name x pos) (tD X.K (cF d)) := weE (pe_glob hg hm r hd) (tC_of hv)
/-! ### two by an operator -/
def opF (op : D → D → Sto → Option (D × Sto)) (f g : M D) : M D := fun env st => (f env st).bind fun p => (g env p.2).bind fun q => op p.1 q.1 q.2
/-- what an operator does, by values -/
def OpD (K : PySem.W.Frag) (op : D → D → Sto → Option (D × Sto)) (r : R2) : Prop := ∀ (H : Hp) (α : Nat → Addr) (st : Sto) (a b d : D) (st' : Sto) (v w : V) (Q : VK), Rel K H α st → op a b st = some (d, st') →
  RD K H α st.size a v → RD K H α st.size b w → (∀ H' α' u, Step K H α st.size H' α' st' → RD K H' α' st'.size d u → Q u H') → r v w H Q
theorem opF_ok {K : PySem.W.Frag} {op : D → D → Sto → Option (D × Sto)} {r : R2} {f g : M D} (od : OpD K op r) : ∀ σ H Q, tD K (opF op f g) σ H Q → tOp r (tD K f) (tD K g) σ H Q := by
  rintro σ H Q ⟨α, st, env, d, st', rel, re, h, k⟩
  obtain ⟨⟨a, s1⟩, ha, h⟩ := bindS h
  obtain ⟨⟨b, s2⟩, hb, h⟩ := bindS h
  refine ⟨α, st, env, a, s1, rel, re, ha, fun H1 α1 v S1 rv => ⟨α1, s1, env, b, s2, S1.rel, re.step S1, hb, fun H2 α2 w S2 rw => ?_⟩⟩
  exact od H2 α2 s2 a b d st' v w Q S2.rel h (rv.step S2) rw fun H' α' u S3 ru => k H' α' u (S1.trans (S2.trans S3)) ru
theorem de_op {op : Operator} {r : R2} {opd : D → D → Sto → Option (D × Sto)} {a b : Expr} {f g : M D} (ho : OpR X (binaryOp op) r) (od : OpD X.K opd r) (ha : PE X a (tD X.K f)) (hb : PE X b (tD X.K g)) :
    PE X (.BinOp a op b pos) (tD X.K (opF opd f g)) := weE (pe_op ho ha hb) (opF_ok od)
theorem de_cmp {op : CmpOp} {r : R2} {opd : D → D → Sto → Option (D × Sto)} {a b : Expr} {f g : M D} (ho : OpR X (compareOp op) r) (od : OpD X.K opd r) (ha : PE X a (tD X.K f)) (hb : PE X b (tD X.K g)) (hm : behindInMarks op b = false) :
    PE X (.Compare a [op] [b] pos) (tD X.K (opF opd f g)) := weE (pe_cmpR ho ha hb hm) (opF_ok od)
/-- an expression that comes to a truth -/
def tstF (f : M D) : M Bool := fun env st => (f env st).bind fun p => match p.1 with
  | .bl b => some (b, p.2)
  | _ => none
theorem tst_ok {K : PySem.W.Frag} {f : M D} {t : TE} (ht : ∀ σ H Q, tD K f σ H Q → t σ H Q) : ∀ σ H Q, tDT K (tstF f) σ H Q → t σ H fun x H' => ∃ k, x = .bl k ∧ Q k H' := by
  rintro σ H Q ⟨α, st, env, b, st', rel, re, h, k⟩
  obtain ⟨⟨a, s1⟩, ha, h⟩ := bindS h
  cases a with
  | bl c =>
    cases h
    refine ht σ H _ ⟨α, st, env, .bl b, s1, rel, re, ha, fun H' α' v S rv => ?_⟩
    unfold RD at rv
    exact ⟨b, rv, k H' α' S⟩
  | _ => cases h
theorem dt_cmp {op : CmpOp} {r : R2} {opd : D → D → Sto → Option (D × Sto)} {a b : Expr} {f g : M D} (ho : OpR X (compareOp op) r) (od : OpD X.K opd r) (ha : PE X a (tD X.K f)) (hb : PE X b (tD X.K g)) (hm : behindInMarks op b = false) :
    PT X (.Compare a [op] [b] pos) (tDT X.K (tstF (opF opd f g))) := weT (pt_cmpR ho ha hb hm) (tst_ok (opF_ok od))
theorem dt_val {e : Expr} {f : M D} (h : PE X e (tD X.K f)) (he : ∀ whole, isTrue e X.env whole = (do let v ← whole; standAt e.pos; holding [v] (truthy v)) := by intro _; rfl) : PT X e (tDT X.K (tstF f)) :=
  weT (pt_val h he) (tst_ok fun _ _ _ z => z)
/-! ### and, or, not -/
def andF (f g : M Bool) : M Bool := fun env st => (f env st).bind fun p => if p.1 = true then g env p.2 else some (false, p.2)
def orF (f g : M Bool) : M Bool := fun env st => (f env st).bind fun p => if p.1 = true then some (true, p.2) else g env p.2
def notF (f : M Bool) : M Bool := fun env st => (f env st).bind fun p => some (!p.1, p.2)
variable {a b c : Expr} {rest : List Expr} {f g h' : M Bool}
theorem andF_ok {K : PySem.W.Frag} : ∀ σ H Q, tDT K (andF f g) σ H Q → tAnd (tDT K f) (tDT K g) σ H Q := by
  rintro σ H Q ⟨α, st, env, d, st', rel, re, h, k⟩
  obtain ⟨⟨x, s1⟩, ha, h⟩ := bindS h
  refine ⟨α, st, env, x, s1, rel, re, ha, fun H1 α1 S1 => ?_⟩
  cases x with
  | true =>
    rw [if_pos rfl] at h
    rw [if_pos rfl]
    exact ⟨α1, s1, env, d, st', S1.rel, re.step S1, h, fun H2 α2 S2 => k H2 α2 (S1.trans S2)⟩
  | false =>
    rw [if_neg (by simp)] at h
    rw [if_neg (by simp)]
    cases h
    exact k H1 α1 S1
theorem orF_ok {K : PySem.W.Frag} : ∀ σ H Q, tDT K (orF f g) σ H Q → tOr (tDT K f) (tDT K g) σ H Q := by
  rintro σ H Q ⟨α, st, env, d, st', rel, re, h, k⟩
  obtain ⟨⟨x, s1⟩, ha, h⟩ := bindS h
  refine ⟨α, st, env, x, s1, rel, re, ha, fun H1 α1 S1 => ?_⟩
  cases x with
  | true =>
    rw [if_pos rfl] at h
    rw [if_pos rfl]
    cases h
    exact k H1 α1 S1
  | false =>
    rw [if_neg (by simp)] at h
    rw [if_neg (by simp)]
    exact ⟨α1, s1, env, d, st', S1.rel, re.step S1, h, fun H2 α2 S2 => k H2 α2 (S1.trans S2)⟩
theorem dw_and1 (ha : PT X a (tDT X.K f)) : PW X (.BoolOp .And [a] pos) (tDT X.K f) := pw_and1 ha
theorem dw_or1 (ha : PT X a (tDT X.K f)) : PW X (.BoolOp .Or [a] pos) (tDT X.K f) := pw_or1 ha
theorem dw_and (ha : PT X a (tDT X.K f)) (hb : PW X (.BoolOp .And (b :: rest) pos) (tDT X.K g)) : PW X (.BoolOp .And (a :: b :: rest) pos) (tDT X.K (andF f g)) := weW (pw_and ha hb) andF_ok
theorem dw_or (ha : PT X a (tDT X.K f)) (hb : PW X (.BoolOp .Or (b :: rest) pos) (tDT X.K g)) : PW X (.BoolOp .Or (a :: b :: rest) pos) (tDT X.K (orF f g)) := weW (pw_or ha hb) orF_ok
theorem dt_not (ha : PT X a (tDT X.K f)) : PT X (.UnaryOp .Not a pos) (tDT X.K (notF f)) := weT (pt_not ha) (by
  rintro σ H Q ⟨α, st, env, d, st', rel, re, h, k⟩
  obtain ⟨⟨x, s1⟩, ha, h⟩ := bindS h
  cases h
  exact ⟨α, st, env, x, s1, rel, re, ha, fun H1 α1 S1 => k H1 α1 S1⟩)
/-- as values -/
def blF (f : M Bool) : M D := fun env st => (f env st).bind fun p => some (.bl p.1, p.2)
def andV (f g : M D) : M D := fun env st => (f env st).bind fun p => match p.1 with
  | .bl true => g env p.2
  | .bl false => some (.bl false, p.2)
  | _ => none
def orV (f g : M D) : M D := fun env st => (f env st).bind fun p => match p.1 with
  | .bl false => g env p.2
  | .bl true => some (.bl true, p.2)
  | _ => none
def notV (f : M D) : M D := fun env st => (f env st).bind fun p => match p.1 with
  | .bl b => some (.bl !b, p.2)
  | _ => none
variable {fv gv : M D}
theorem de_one {op} (h : PE X a (tD X.K fv)) : PE X (.BoolOp op [a] pos) (tD X.K fv) := pe_one h
theorem de_and (ha : PE X a (tD X.K fv)) (hb : PE X (.BoolOp .And (b :: rest) pos) (tD X.K gv)) : PE X (.BoolOp .And (a :: b :: rest) pos) (tD X.K (andV fv gv)) := weE (pe_and ha hb) (by
  rintro σ H Q ⟨α, st, env, d, st', rel, re, h, k⟩
  obtain ⟨⟨x, s1⟩, ha, h⟩ := bindS h
  refine ⟨α, st, env, x, s1, rel, re, ha, fun H1 α1 v S1 rv => ?_⟩
  cases x with
  | bl c =>
    unfold RD at rv
    subst rv
    refine ⟨c, rfl, ?_⟩
    cases c with
    | true => exact ⟨α1, s1, env, d, st', S1.rel, re.step S1, h, fun H2 α2 w S2 => k H2 α2 w (S1.trans S2)⟩
    | false =>
      cases h
      exact k H1 α1 _ S1 (by unfold RD; rfl)
  | _ => cases h)
theorem de_or (ha : PE X a (tD X.K fv)) (hb : PE X (.BoolOp .Or (b :: rest) pos) (tD X.K gv)) : PE X (.BoolOp .Or (a :: b :: rest) pos) (tD X.K (orV fv gv)) := weE (pe_or ha hb) (by
  rintro σ H Q ⟨α, st, env, d, st', rel, re, h, k⟩
  obtain ⟨⟨x, s1⟩, ha, h⟩ := bindS h
  refine ⟨α, st, env, x, s1, rel, re, ha, fun H1 α1 v S1 rv => ?_⟩
  cases x with
  | bl c =>
    unfold RD at rv
    subst rv
    refine ⟨c, rfl, ?_⟩
    cases c with
    | false => exact ⟨α1, s1, env, d, st', S1.rel, re.step S1, h, fun H2 α2 w S2 => k H2 α2 w (S1.trans S2)⟩
    | true =>
      cases h
      exact k H1 α1 _ S1 (by unfold RD; rfl)
  | _ => cases h)
theorem de_not (ha : PE X a (tD X.K fv)) : PE X (.UnaryOp .Not a pos) (tD X.K (notV fv)) := weE (pe_not ha) (by
  rintro σ H Q ⟨α, st, env, d, st', rel, re, h, k⟩
  obtain ⟨⟨x, s1⟩, ha, h⟩ := bindS h
  refine ⟨α, st, env, x, s1, rel, re, ha, fun H1 α1 v S1 rv => ?_⟩
  cases x with
  | bl c =>
    unfold RD at rv
    subst rv
    cases h
    exact ⟨c, rfl, k H1 α1 _ S1 (by unfold RD; rfl)⟩
  | _ => cases h)
def ifF (t : M Bool) (f g : M D) : M D := fun env st => (t env st).bind fun p => if p.1 = true then f env p.2 else g env p.2
theorem de_if (hc : PT X c (tDT X.K f)) (ha : PE X a (tD X.K fv)) (hb : PE X b (tD X.K gv)) : PE X (.IfExp c a b pos) (tD X.K (ifF f fv gv)) := weE (pe_ifExp hc ha hb) (by
  rintro σ H Q ⟨α, st, env, d, st', rel, re, h, k⟩
  obtain ⟨⟨x, s1⟩, ha, h⟩ := bindS h
  refine ⟨α, st, env, x, s1, rel, re, ha, fun H1 α1 S1 => ?_⟩
  cases x with
  | true =>
    rw [if_pos rfl] at h
    rw [if_pos rfl]
    exact ⟨α1, s1, env, d, st', S1.rel, re.step S1, h, fun H2 α2 w S2 => k H2 α2 w (S1.trans S2)⟩
  | false =>
    rw [if_neg (by simp)] at h
    rw [if_neg (by simp)]
    exact ⟨α1, s1, env, d, st', S1.rel, re.step S1, h, fun H2 α2 w S2 => k H2 α2 w (S1.trans S2)⟩)
/-! ### one by an operator -/
def unF (op : D → Sto → Option (D × Sto)) (f : M D) : M D := fun env st => (f env st).bind fun p => op p.1 p.2
def UnD (K : PySem.W.Frag) (op : D → Sto → Option (D × Sto)) (r : V → Hp → VK → Prop) : Prop := ∀ (H : Hp) (α : Nat → Addr) (st : Sto) (a d : D) (st' : Sto) (v : V) (Q : VK), Rel K H α st → op a st = some (d, st') →
  RD K H α st.size a v → (∀ H' α' u, Step K H α st.size H' α' st' → RD K H' α' st'.size d u → Q u H') → r v H Q
theorem unF_ok {K : PySem.W.Frag} {op : D → Sto → Option (D × Sto)} {r : V → Hp → VK → Prop} {f : M D} (od : UnD K op r) : ∀ σ H Q, tD K (unF op f) σ H Q → tD K f σ H fun x H1 => r x H1 Q := by
  rintro σ H Q ⟨α, st, env, d, st', rel, re, h, k⟩
  obtain ⟨⟨a, s1⟩, ha, h⟩ := bindS h
  refine ⟨α, st, env, a, s1, rel, re, ha, fun H1 α1 v S1 rv => ?_⟩
  exact od H1 α1 s1 a d st' v Q S1.rel h rv fun H' α' u S3 ru => k H' α' u (S1.trans S3) ru
def negD : D → Sto → Option (D × Sto)
  | .int i, st => some (.int (-i), st)
  | _, _ => none
theorem negD_ok {K : PySem.W.Frag} : UnD K negD (rU fun i => .int (-i)) := by
  intro H α st a d st' v Q rel h ra k
  cases a with
  | int i =>
    unfold RD at ra
    subst ra
    cases h
    exact ⟨i, rfl, k H α _ (.refl rel) (by unfold RD; rfl)⟩
  | _ => cases h
theorem de_neg (ha : PE X a (tD X.K fv)) : PE X (.UnaryOp .USub a pos) (tD X.K (unF negD fv)) := weE (pe_un un_neg ha) (unF_ok negD_ok)
/-! ### arguments, displays -/
def nilF : M (List D) := fun _ st => some ([], st)
def consF (f : M D) (g : M (List D)) : M (List D) := fun env st => (f env st).bind fun p => (g env p.2).bind fun q => some (p.1 :: q.1, q.2)
variable {es : List Expr} {fs : M (List D)}
theorem da_nil : PA X [] (tDA X.K nilF) := weA pa_nil (by
  rintro σ H Q ⟨α, st, env, d, st', rel, re, h, k⟩
  cases h
  exact k H α _ (.refl rel) .nil)
theorem da_cons (ha : PE X e (tD X.K fv)) (hr : PA X es (tDA X.K fs)) (hs : starEach (e :: es) X.env = (false, eval e X.env) :: starEach es X.env := by rfl) : PA X (e :: es) (tDA X.K (consF fv fs)) := weA (pa_cons ha hr hs) (by
  rintro σ H Q ⟨α, st, env, d, st', rel, re, h, k⟩
  obtain ⟨⟨a, s1⟩, ha, h⟩ := bindS h
  obtain ⟨⟨as, s2⟩, hb, h⟩ := bindS h
  cases h
  exact ⟨α, st, env, a, s1, rel, re, ha, fun H1 α1 v S1 rv => ⟨α1, s1, env, as, s2, S1.rel, re.step S1, hb, fun H2 α2 vs S2 rvs => k H2 α2 _ (S1.trans S2) (.cons (rv.step S2) rvs)⟩⟩)
def tupF (f : M (List D)) : M D := fun env st => (f env st).bind fun p => if p.1.length ≤ SZ then some (.tup p.1, p.2) else none
def lstF (f : M (List D)) : M D := fun env st => (f env st).bind fun p => if p.1.length ≤ SZ then some (.ref p.2.size, p.2.push (.lst p.1)) else none
theorem de_tup {x1} (h : PA X es (tDA X.K fs)) : PE X (.Tuple es x1 pos) (tD X.K (tupF fs)) := weE (pe_tup h) (by
  rintro σ H Q ⟨α, st, env, d, st', rel, re, h, k⟩
  obtain ⟨⟨as, s1⟩, ha, h⟩ := bindS h
  by_cases hz : as.length ≤ SZ
  · rw [if_pos hz] at h
    cases h
    refine ⟨α, st, env, as, s1, rel, re, ha, fun H1 α1 vs S1 rvs => ⟨by rw [rvs.length]; exact hz, fun p hp => ?_⟩⟩
    have S2 := S1.rel.tup (vs := vs) hp
    exact k _ α1 _ (S1.trans S2) (by unfold RD; exact ⟨p, vs, rfl, .of upd_same, rvs.step S2⟩)
  · rw [if_neg hz] at h
    cases h)
theorem de_lst (h : PA X es (tDA X.K fs)) : PE X (.List es pos) (tD X.K (lstF fs)) := weE (pe_lst h) (by
  rintro σ H Q ⟨α, st, env, d, st', rel, re, h, k⟩
  obtain ⟨⟨as, s1⟩, ha, h⟩ := bindS h
  by_cases hz : as.length ≤ SZ
  · rw [if_pos hz] at h
    cases h
    refine ⟨α, st, env, as, s1, rel, re, ha, fun H1 α1 vs S1 rvs => ⟨by rw [rvs.length]; exact hz, fun p hp => ?_⟩⟩
    have hl : ∀ o, Ext X.K H1 (upd H1 p o) := fun o => ext_upd (.none hp)
    have S2 : Step X.K H1 α1 s1.size (upd H1 p (.lst vs)) (addr α1 s1.size p) (s1.push (.lst as)) :=
      S1.rel.new hp rfl ⟨vs, upd_same, RDs.mono (hl _) (fun i hi => addr_lt hi) (Nat.le_succ _) _ _ rvs⟩
    exact k _ _ _ (S1.trans S2) (by unfold RD; exact ⟨by rw [Sto.size_push]; omega, by rw [addr_new]⟩)
  · rw [if_neg hz] at h
    cases h)
/-- a new list of the store -/
theorem newL {K : PySem.W.Frag} {H1 : Hp} {α1 : Nat → Addr} {s1 : Sto} {vs : List V} {as : List D} {p : Addr} (rel : Rel K H1 α1 s1) (rvs : RDs K H1 α1 s1.size as vs) (hp : H1 p = none) :
    Step K H1 α1 s1.size (upd H1 p (.lst vs)) (addr α1 s1.size p) (s1.push (.lst as)) :=
  rel.new hp rfl ⟨vs, upd_same, RDs.mono (ext_upd (.none hp)) (fun i hi => addr_lt hi) (Nat.le_succ _) _ _ rvs⟩
theorem rdNew {K : PySem.W.Frag} {H : Hp} {α1 : Nat → Addr} {s1 : Sto} {o : O} {p : Addr} : RD K H (addr α1 s1.size p) (s1.push o).size (.ref s1.size) (.ref p) := by
  unfold RD
  exact ⟨by rw [Sto.size_push]; omega, by rw [addr_new]⟩
end
end Dn
/-! Operators on values. -/
namespace Dn
open PySem PySem.Spec PyProof.Rows L2
section
variable {K : PySem.W.Frag} {H : Hp} {α : Nat → Addr} {m : Nat} {st : Sto}
theorem rdInt {i : Int} {v : V} (h : RD K H α m (.int i) v) : v = .int i := by unfold RD at h; exact h
theorem rdBl {i : Bool} {v : V} (h : RD K H α m (.bl i) v) : v = .bl i := by unfold RD at h; exact h
theorem rdStr {i : Str} {v : V} (h : RD K H α m (.str i) v) : v = .str i := by unfold RD at h; exact h
theorem rdNon {v : V} (h : RD K H α m .non v) : v = .non := by unfold RD at h; exact h
theorem rdRef {n : Nat} {v : V} (h : RD K H α m (.ref n) v) : n < m ∧ v = .ref (α n) := by unfold RD at h; exact h
theorem rdTup {xs : List D} {v : V} (h : RD K H α m (.tup xs) v) : ∃ a vs, v = .ref a ∧ SqT K H a vs ∧ RDs K H α m xs vs := by unfold RD at h; exact h
theorem rInt {i : Int} : RD K H α m (.int i) (.int i) := by unfold RD; rfl
theorem rBl {i : Bool} : RD K H α m (.bl i) (.bl i) := by unfold RD; rfl
theorem rStr {i : Str} : RD K H α m (.str i) (.str i) := by unfold RD; rfl
theorem rNon : RD K H α m .non .non := by unfold RD; rfl
theorem rRef {n : Nat} (h : n < m) : RD K H α m (.ref n) (.ref (α n)) := by unfold RD; exact ⟨h, rfl⟩
theorem rTup {xs : List D} {a : Addr} {vs : List V} (h : SqT K H a vs) (r : RDs K H α m xs vs) : RD K H α m (.tup xs) (.ref a) := by unfold RD; exact ⟨a, vs, rfl, h, r⟩
theorem Rel.lst {n : Nat} {xs : List D} (r : Rel K H α st) (h : st.get n = some (.lst xs)) : ∃ vs, H (α n) = some (.lst vs) ∧ RDs K H α st.size xs vs := r.obj n _ h
theorem Rel.frl {n : Nat} {xs : List D} (r : Rel K H α st) (h : st.get n = some (.frl xs)) : ∃ vs, SqF K H (α n) vs ∧ RDs K H α st.size xs vs := r.obj n _ h
theorem Rel.dic {n : Nat} {xs : List (Key × D)} (r : Rel K H α st) (h : st.get n = some (.dic xs)) : ∃ vs, H (α n) = some (.dK vs) ∧ RKV K H α st.size xs vs := r.obj n _ h
theorem Rel.frd {n : Nat} {xs : List (Key × D)} (r : Rel K H α st) (h : st.get n = some (.frd xs)) : ∃ o vs, H (α n) = some (.frz o (.dK vs)) ∧ RKV K H α st.size xs vs := r.obj n _ h
/-- what may be read as a list -/
def O.seq : O → Option (List D)
  | .lst xs => some xs
  | .frl xs => some xs
  | _ => none
def Sto.seq (st : Sto) (n : Nat) : Option (List D) := (st.get n).bind O.seq
theorem Rel.seq {n : Nat} {xs : List D} (r : Rel K H α st) (h : st.seq n = some xs) : ∃ vs, SqL K H (α n) vs ∧ RDs K H α st.size xs vs := by
  obtain ⟨o, ho, h⟩ := bindS h
  cases o with
  | lst ys => cases h; obtain ⟨vs, h1, h2⟩ := r.lst ho; exact ⟨vs, .of h1, h2⟩
  | frl ys => cases h; obtain ⟨vs, h1, h2⟩ := r.frl ho; exact ⟨vs, h1.sq, h2⟩
  | _ => cases h
def O.map : O → Option (List (Key × D))
  | .dic xs => some xs
  | .frd xs => some xs
  | _ => none
def Sto.map (st : Sto) (n : Nat) : Option (List (Key × D)) := (st.get n).bind O.map
theorem Rel.map {n : Nat} {xs : List (Key × D)} (r : Rel K H α st) (h : st.map n = some xs) : ∃ vs, Rd H (α n) (.dK vs) ∧ RKV K H α st.size xs vs := by
  obtain ⟨o, ho, h⟩ := bindS h
  cases o with
  | dic ys => cases h; obtain ⟨vs, h1, h2⟩ := r.dic ho; exact ⟨vs, .inl h1, h2⟩
  | frd ys => cases h; obtain ⟨o, vs, h1, h2⟩ := r.frd ho; exact ⟨vs, .inr ⟨o, h1⟩, h2⟩
  | _ => cases h
/-! ### dicts -/
def kGet (kvs : List (Key × D)) (k : Key) : Option D := (kvs.find? fun kv => decide (kv.1 = k)).map (·.2)
def kPut (kvs : List (Key × D)) (k : Key) (v : D) : List (Key × D) := if kvs.any (fun kv => decide (kv.1 = k)) then kvs.map (fun kv => if kv.1 = k then (kv.1, v) else kv) else kvs ++ [(k, v)]
def kDrop (kvs : List (Key × D)) (k : Key) : List (Key × D) := kvs.filter fun kv => decide (kv.1 ≠ k)
theorem RKV.get : ∀ {kvs : List (Key × D)} {vs : List (Key × V)} (k : Key), RKV K H α m kvs vs → (∀ d, kGet kvs k = some d → ∃ v, valV vs k = some v ∧ RD K H α m d v) ∧ (kGet kvs k = none → valV vs k = none)
  | [], vs, k, h => by
    unfold RKV at h
    subst h
    exact ⟨fun d e => (by cases e), fun _ => rfl⟩
  | (j, d) :: kvs, vs, k, h => by
    unfold RKV at h
    obtain ⟨v, r, rfl, h1, h2⟩ := h
    have ih := RKV.get k h2
    by_cases e : j = k
    · refine ⟨fun d' e' => ?_, fun e' => ?_⟩
      · have : kGet ((j, d) :: kvs) k = some d := by simp [kGet, List.find?_cons, e]
        rw [this] at e'
        cases e'
        exact ⟨v, valV_pos e, h1⟩
      · have : kGet ((j, d) :: kvs) k = some d := by simp [kGet, List.find?_cons, e]
        rw [this] at e'
        cases e'
    · have q : kGet ((j, d) :: kvs) k = kGet kvs k := by simp [kGet, List.find?_cons, e]
      rw [q, valV_neg (p := (j, v)) e]
      exact ih
theorem RKV.any (k : Key) : ∀ {kvs : List (Key × D)} {vs : List (Key × V)}, RKV K H α m kvs vs → (vs.any fun kv => decide (kv.1 = k)) = kvs.any fun kv => decide (kv.1 = k)
  | [], vs, h => by unfold RKV at h; subst h; rfl
  | (j, d) :: kvs, vs, h => by
    unfold RKV at h
    obtain ⟨v, r, rfl, h1, h2⟩ := h
    simp only [List.any_cons]
    rw [RKV.any k h2]
theorem RKV.repl (k : Key) {d' : D} {v' : V} (q : RD K H α m d' v') : ∀ {kvs : List (Key × D)} {vs : List (Key × V)}, RKV K H α m kvs vs →
    RKV K H α m (kvs.map fun kv => if kv.1 = k then (kv.1, d') else kv) (vs.map fun kv => if kv.1 = k then (kv.1, v') else kv)
  | [], vs, h => by unfold RKV at h; subst h; unfold RKV; rfl
  | (j, d) :: kvs, vs, h => by
    unfold RKV at h
    obtain ⟨v, r, rfl, h1, h2⟩ := h
    simp only [List.map_cons]
    by_cases e : j = k
    · rw [if_pos e, if_pos e]
      unfold RKV
      exact ⟨v', _, rfl, q, RKV.repl k q h2⟩
    · rw [if_neg e, if_neg e]
      unfold RKV
      exact ⟨v, _, rfl, h1, RKV.repl k q h2⟩
theorem RKV.snoc (k : Key) {d' : D} {v' : V} (q : RD K H α m d' v') : ∀ {kvs : List (Key × D)} {vs : List (Key × V)}, RKV K H α m kvs vs → RKV K H α m (kvs ++ [(k, d')]) (vs ++ [(k, v')])
  | [], vs, h => by unfold RKV at h; subst h; simp only [List.nil_append]; unfold RKV; exact ⟨v', [], rfl, q, by unfold RKV; rfl⟩
  | (j, d) :: kvs, vs, h => by
    unfold RKV at h
    obtain ⟨v, r, rfl, h1, h2⟩ := h
    simp only [List.cons_append]
    unfold RKV
    exact ⟨v, _, rfl, h1, RKV.snoc k q h2⟩
theorem RKV.put {kvs : List (Key × D)} {vs : List (Key × V)} (h : RKV K H α m kvs vs) (k : Key) {d' : D} {v' : V} (q : RD K H α m d' v') : RKV K H α m (kPut kvs k d') (putK vs k v') := by
  unfold kPut putK
  rw [RKV.any k h]
  split
  · exact RKV.repl k q h
  · exact RKV.snoc k q h
theorem RKV.drop (k : Key) : ∀ {kvs : List (Key × D)} {vs : List (Key × V)}, RKV K H α m kvs vs → RKV K H α m (kDrop kvs k) (dropK vs k)
  | [], vs, h => by unfold RKV at h; subst h; unfold kDrop dropK; simp only [List.filter_nil]; unfold RKV; rfl
  | (j, d) :: kvs, vs, h => by
    unfold RKV at h
    obtain ⟨v, r, rfl, h1, h2⟩ := h
    have ih := RKV.drop k h2
    unfold kDrop dropK at ih ⊢
    by_cases e : j = k
    · rw [List.filter_cons_of_neg (by simp [e]), List.filter_cons_of_neg (by simp [e])]
      exact ih
    · rw [List.filter_cons_of_pos (by simp [e]), List.filter_cons_of_pos (by simp [e])]
      unfold RKV
      exact ⟨v, _, rfl, h1, ih⟩
theorem RKV.length : ∀ {kvs : List (Key × D)} {vs : List (Key × V)}, RKV K H α m kvs vs → vs.length = kvs.length
  | [], vs, h => by unfold RKV at h; subst h; rfl
  | (j, d) :: kvs, vs, h => by
    unfold RKV at h
    obtain ⟨v, r, rfl, h1, h2⟩ := h
    simp [RKV.length h2]
theorem RKV.step {H' : Hp} {α' : Nat → Addr} {st' : Sto} {d : List (Key × D)} {v : List (Key × V)} (s : Step K H α m H' α' st') (h : RKV K H α m d v) : RKV K H' α' st'.size d v := RKV.mono s.ext s.agree s.le d v h
/-- a key -/
def D.key : D → Option Key
  | .int i => some (.inl i)
  | .str s => some (.inr s)
  | _ => none
theorem rdKey {d : D} {k : Key} {v : V} (e : d.key = some k) (h : RD K H α m d v) : v = kV k := by
  cases d with
  | int i => cases e; exact rdInt h
  | str i => cases e; exact rdStr h
  | _ => cases e
end
/-! ### arithmetic -/
def addD : D → D → Sto → Option (D × Sto)
  | .int i, .int j, st => some (.int (i + j), st)
  | .tup xs, .tup ys, st => if xs.length + ys.length ≤ SZ then some (.tup (xs ++ ys), st) else none
  | .str x, .str y, st => if x.length + y.length ≤ SZ then some (.str (x ++ y), st) else none
  | .ref a, .ref b, st => match st.get a, st.get b with
    | some (.lst xs), some (.lst ys) => if xs.length + ys.length ≤ SZ then some (.ref st.size, st.push (.lst (xs ++ ys))) else none
    | _, _ => none
  | _, _, _ => none
def rAddS : R2 := fun x y H Q => ∃ i j, x = .str i ∧ y = .str j ∧ i.length + j.length ≤ sizeLine ∧ Q (.str (i ++ j)) H
def rAddA (K : PySem.W.Frag) : R2 := fun x y H Q => rI0 (fun i j => .int (i + j)) x y H Q ∨ rCatA K x y H Q ∨ rAddS x y H Q ∨ rCat x y H Q
theorem op_addA {X : Cx} : OpR X (binaryOp .Add) (rAddA X.K) := op_add.or (op_catA.or (OpR.or op_add_str op_cat))
theorem addD_ok {K : PySem.W.Frag} : OpD K addD (rAddA K) := by
  intro H α st a b d st' v w Q rel h ra rb k
  unfold addD at h
  split at h
  · cases h
    exact .inl ⟨_, _, rdInt ra, rdInt rb, k H α _ (.refl rel) rInt⟩
  · rename_i xs ys
    split at h
    · rename_i hz
      cases h
      obtain ⟨p, vs, rfl, h1, h2⟩ := rdTup ra
      obtain ⟨q, ws, rfl, h3, h4⟩ := rdTup rb
      refine .inr (.inl ⟨p, q, vs, ws, rfl, rfl, h1, h3, by rw [h2.length, h4.length]; exact hz, fun e => ?_, fun _ e => ?_, fun _ _ r hr => ?_⟩)
      · have : xs = [] := List.eq_nil_of_length_eq_zero (by rw [← h2.length, e]; rfl)
        subst this
        exact k H α _ (.refl rel) (rTup h3 h4)
      · have : ys = [] := List.eq_nil_of_length_eq_zero (by rw [← h4.length, e]; rfl)
        subst this
        exact k H α _ (.refl rel) (rTup h1 (by rw [List.append_nil]; exact h2))
      · have S := rel.tup (vs := vs ++ ws) hr
        exact k _ α _ S (rTup (.of upd_same) ((h2.append h4).step S))
    · cases h
  · rename_i x y
    split at h
    · rename_i hz
      cases h
      exact .inr (.inr (.inl ⟨_, _, rdStr ra, rdStr rb, hz, k H α _ (.refl rel) rStr⟩))
    · cases h
  · rename_i n m'
    split at h
    · rename_i xs ys e1 e2
      split at h
      · rename_i hz
        cases h
        obtain ⟨vs, h1, h2⟩ := rel.lst e1
        obtain ⟨ws, h3, h4⟩ := rel.lst e2
        refine .inr (.inr (.inr ⟨_, _, vs, ws, (rdRef ra).2, (rdRef rb).2, h1, h3, by rw [h2.length, h4.length]; exact hz, fun p hp => ?_⟩))
        exact k _ _ _ (newL rel (h2.append h4) hp) rdNew
      · cases h
    · cases h
  · cases h
theorem de_add {X : Cx} {a b : Expr} {f g : M D} {pos : Pos} (ha : PE X a (tD X.K f)) (hb : PE X b (tD X.K g)) : PE X (.BinOp a .Add b pos) (tD X.K (opF addD f g)) := de_op op_addA addD_ok ha hb
def subD : D → D → Sto → Option (D × Sto)
  | .int i, .int j, st => some (.int (i - j), st)
  | _, _, _ => none
theorem subD_ok {K : PySem.W.Frag} : OpD K subD (rI0 fun i j => .int (i - j)) := by
  intro H α st a b d st' v w Q rel h ra rb k
  unfold subD at h
  split at h
  · cases h
    exact ⟨_, _, rdInt ra, rdInt rb, k H α _ (.refl rel) rInt⟩
  · cases h
theorem de_sub {X : Cx} {a b : Expr} {f g : M D} {pos : Pos} (ha : PE X a (tD X.K f)) (hb : PE X b (tD X.K g)) : PE X (.BinOp a .Sub b pos) (tD X.K (opF subD f g)) := de_op op_sub subD_ok ha hb
instance {i j : Int} : Decidable (CMul i j) := by unfold CMul; exact inferInstance
def modD : D → D → Sto → Option (D × Sto)
  | .int i, .int j, st => if j ≠ 0 then some (.int (i.fmod j), st) else none
  | _, _, _ => none
theorem modD_ok {K : PySem.W.Frag} : OpD K modD (rI (fun _ j => j ≠ 0) fun i j => .int (i.fmod j)) := by
  intro H α st a b d st' v w Q rel h ra rb k
  unfold modD at h
  split at h
  · split at h
    · rename_i hj
      cases h
      exact ⟨_, _, rdInt ra, rdInt rb, hj, k H α _ (.refl rel) rInt⟩
    · cases h
  · cases h
theorem de_mod {X : Cx} {a b : Expr} {f g : M D} {pos : Pos} (ha : PE X a (tD X.K f)) (hb : PE X b (tD X.K g)) : PE X (.BinOp a .Mod b pos) (tD X.K (opF modD f g)) := de_op op_modN modD_ok ha hb
instance {i j : Int} : Decidable (CDivN i j) := by unfold CDivN; exact inferInstance
def fdivD : D → D → Sto → Option (D × Sto)
  | .int i, .int j, st => if CDivN i j then some (.int (i.fdiv j), st) else none
  | _, _, _ => none
theorem fdivD_ok {K : PySem.W.Frag} : OpD K fdivD (rI CDivN fun i j => .int (i.fdiv j)) := by
  intro H α st a b d st' v w Q rel h ra rb k
  unfold fdivD at h
  split at h
  · split at h
    · rename_i hj
      cases h
      exact ⟨_, _, rdInt ra, rdInt rb, hj, k H α _ (.refl rel) rInt⟩
    · cases h
  · cases h
theorem de_fdiv {X : Cx} {a b : Expr} {f g : M D} {pos : Pos} (ha : PE X a (tD X.K f)) (hb : PE X b (tD X.K g)) : PE X (.BinOp a .FloorDiv b pos) (tD X.K (opF fdivD f g)) := de_op op_fdivN fdivD_ok ha hb
instance {i j : Int} : Decidable (CPow i j) := by unfold CPow; exact inferInstance
def powD : D → D → Sto → Option (D × Sto)
  | .int i, .int j, st => if CPow i j then some (.int (i ^ j.toNat), st) else none
  | _, _, _ => none
theorem powD_ok {K : PySem.W.Frag} : OpD K powD (rI CPow fun i j => .int (i ^ j.toNat)) := by
  intro H α st a b d st' v w Q rel h ra rb k
  unfold powD at h
  split at h
  · split at h
    · rename_i hj
      cases h
      exact ⟨_, _, rdInt ra, rdInt rb, hj, k H α _ (.refl rel) rInt⟩
    · cases h
  · cases h
theorem de_pow {X : Cx} {a b : Expr} {f g : M D} {pos : Pos} (ha : PE X a (tD X.K f)) (hb : PE X b (tD X.K g)) : PE X (.BinOp a .Pow b pos) (tD X.K (opF powD f g)) := de_op op_pow powD_ok ha hb
/-! ### a[i] -/
def getD : D → D → Sto → Option (D × Sto)
  | .tup xs, .int i, st => (atI xs i).map fun d => (d, st)
  | .str z, .int i, st => if z.length ≤ SZ then (atI z.cps.toList i).map fun c => (.str ⟨#[c]⟩, st) else none
  | .ref n, .int i, st => match st.get n with
    | some (.lst xs) => (atI xs i).map fun d => (d, st)
    | some (.frl xs) => (atI xs i).map fun d => (d, st)
    | some (.dic kvs) => (kGet kvs (.inl i)).map fun d => (d, st)
    | some (.frd kvs) => (kGet kvs (.inl i)).map fun d => (d, st)
    | _ => none
  | .ref n, .str s, st => match st.get n with
    | some (.dic kvs) => (kGet kvs (.inr s)).map fun d => (d, st)
    | some (.frd kvs) => (kGet kvs (.inr s)).map fun d => (d, st)
    | _ => none
  | _, _, _ => none
def rDGet : R2 := fun x y H Q => ∃ a v, x = .ref a ∧ DGet H a y (some v) ∧ Q v H
def rGetA (K : PySem.W.Frag) : R2 := fun x y H Q => rIx K x y H Q ∨ rDGet x y H Q
theorem mapS {α β : Type} {o : Option α} {f : α → β} {b : β} (h : o.map f = some b) : ∃ a, o = some a ∧ f a = b := by
  cases o with
  | none => cases h
  | some a => cases h; exact ⟨a, rfl, rfl⟩
theorem atI_rel {K : PySem.W.Frag} {H : Hp} {α : Nat → Addr} {m : Nat} {xs : List D} {vs : List V} {i : Int} {d : D} (r : RDs K H α m xs vs) (h : atI xs i = some d) : ∃ v, atI vs i = some v ∧ RD K H α m d v := by
  unfold atI at h ⊢
  rw [r.length]
  obtain ⟨j, hj, h⟩ := bindS h
  obtain ⟨v, h1, h2⟩ := r.get h
  exact ⟨v, by rw [hj]; exact h1, h2⟩
/-- a dict -/
def isDic (st : Sto) : D → Bool
  | .ref n => match st.get n with
    | some (.dic _) => true
    | some (.frd _) => true
    | _ => false
  | _ => false
theorem getD_ok {K : PySem.W.Frag} (H : Hp) (α : Nat → Addr) (st : Sto) (a b d : D) (st' : Sto) (v w : V) (Q : VK) (rel : Rel K H α st) (h : getD a b st = some (d, st'))
    (ra : RD K H α st.size a v) (rb : RD K H α st.size b w) (k : ∀ H' α' u, Step K H α st.size H' α' st' → RD K H' α' st'.size d u → Q u H') : (isDic st a = true → rDGet v w H Q) ∧ (isDic st a = false → rIx K v w H Q) := by
  have lst : ∀ {n : Nat} {xs : List D} {i : Int}, a = .ref n → b = .int i → (atI xs i).map (fun d => (d, st)) = some (d, st') → (∃ vs, SqL K H (α n) vs ∧ RDs K H α st.size xs vs) → rIx K v w H Q := by
    intro n xs i ea eb g hs
    rw [ea] at ra
    rw [eb] at rb
    obtain ⟨d', hd, e⟩ := mapS g
    cases e
    obtain ⟨vs, h1, h2⟩ := hs
    obtain ⟨u, hu, hr⟩ := atI_rel h2 hd
    exact .inl ⟨_, vs, i, u, (rdRef ra).2, rdInt rb, h1, hu, k H α u (.refl rel) hr⟩
  have dct : ∀ {n : Nat} {kvs : List (Key × D)} {key : Key}, a = .ref n → b.key = some key → (kGet kvs key).map (fun d => (d, st)) = some (d, st') → (∃ vs, Rd H (α n) (.dK vs) ∧ RKV K H α st.size kvs vs) → rDGet v w H Q := by
    intro n kvs key ea eb g hs
    rw [ea] at ra
    obtain ⟨d', hd, e⟩ := mapS g
    cases e
    obtain ⟨vs, h1, h2⟩ := hs
    obtain ⟨u, hu, hr⟩ := (RKV.get key h2).1 _ hd
    exact ⟨_, u, (rdRef ra).2, .inl ⟨vs, key, h1, rdKey eb rb, hu.symm⟩, k H α u (.refl rel) hr⟩
  unfold getD at h
  split at h
  · obtain ⟨d', hd, e⟩ := mapS h
    cases e
    obtain ⟨p, vs, rfl, h1, h2⟩ := rdTup ra
    obtain ⟨u, hu, hr⟩ := atI_rel h2 hd
    exact ⟨fun z => (by cases z), fun _ => .inr (.inl ⟨p, vs, _, u, rfl, rdInt rb, h1, hu, k H α u (.refl rel) hr⟩)⟩
  · split at h
    · rename_i hz
      obtain ⟨d', hd, e⟩ := mapS h
      cases e
      exact ⟨fun z => (by cases z), fun _ => .inr (.inr ⟨_, _, d', rdStr ra, rdInt rb, hz, hd, k H α _ (.refl rel) rStr⟩)⟩
    · cases h
  · split at h
    · rename_i e; exact ⟨fun z => (by unfold isDic at z; simp only [e] at z; cases z), fun _ => lst rfl rfl h (rel.seq (by unfold Sto.seq; rw [e]; rfl))⟩
    · rename_i e; exact ⟨fun z => (by unfold isDic at z; simp only [e] at z; cases z), fun _ => lst rfl rfl h (rel.seq (by unfold Sto.seq; rw [e]; rfl))⟩
    · rename_i e; exact ⟨fun _ => dct rfl rfl h (rel.map (by unfold Sto.map; rw [e]; rfl)), fun z => (by unfold isDic at z; simp only [e] at z; cases z)⟩
    · rename_i e; exact ⟨fun _ => dct rfl rfl h (rel.map (by unfold Sto.map; rw [e]; rfl)), fun z => (by unfold isDic at z; simp only [e] at z; cases z)⟩
    · cases h
  · split at h
    · rename_i e; exact ⟨fun _ => dct rfl rfl h (rel.map (by unfold Sto.map; rw [e]; rfl)), fun z => (by unfold isDic at z; simp only [e] at z; cases z)⟩
    · rename_i e; exact ⟨fun _ => dct rfl rfl h (rel.map (by unfold Sto.map; rw [e]; rfl)), fun z => (by unfold isDic at z; simp only [e] at z; cases z)⟩
    · cases h
  · cases h
theorem de_ix {X : Cx} {a b : Expr} {f g : M D} {pos : Pos} (hu : X.A.units + 1 < cLine) (ha : PE X a (tD X.K f)) (hb : PE X b (tD X.K g)) (hs : PlainIx b := by intro _ _; rfl) : PE X (.Subscript a b pos) (tD X.K (opF getD f g)) := by
  refine weE (orE (pe_ix ix_seq ha hb hs) (pe_dget hu ha hb hs)) fun σ H Q q => ?_
  obtain ⟨α, st, env, d, st', rel, re, h, k⟩ := q
  obtain ⟨⟨a', s1⟩, ha', h⟩ := bindS h
  obtain ⟨⟨b', s2⟩, hb', h⟩ := bindS h
  cases hd : isDic s2 a' with
  | true =>
    refine .inr ⟨α, st, env, a', s1, rel, re, ha', fun H1 α1 v S1 rv => ⟨α1, s1, env, b', s2, S1.rel, re.step S1, hb', fun H2 α2 w S2 rw => ?_⟩⟩
    exact (getD_ok H2 α2 s2 a' b' d st' v w Q S2.rel h (rv.step S2) rw fun H' α' u S3 ru => k H' α' u (S1.trans (S2.trans S3)) ru).1 hd
  | false =>
    refine .inl ⟨α, st, env, a', s1, rel, re, ha', fun H1 α1 v S1 rv => ⟨α1, s1, env, b', s2, S1.rel, re.step S1, hb', fun H2 α2 w S2 rw => ?_⟩⟩
    exact (getD_ok H2 α2 s2 a' b' d st' v w Q S2.rel h (rv.step S2) rw fun H' α' u S3 ru => k H' α' u (S1.trans (S2.trans S3)) ru).2 hd
end Dn
/-! Products, comparisons, in, slices. -/
namespace Dn
open PySem PySem.Spec PyProof.Rows L2
/-! ### a tuple times a number -/
theorem tuple_mul1 (l : Addr) (items : Array Value) (n : Nat) (dd : Option Addr) (sl : Array (Option Value)) (u : Tok) :
    Meets (Builtin.«tuple.__mul__» ⟨[.ref l, .int 1 u], []⟩) (fun _ R s => s.heap.get? l = some { cls := .type "tuple", dict := dd, data := .seq items n, slots := sl } ∧ R (.ok (.ret (Value.ref l))) s) :=
  .of_wp fun prog w A R s h => by
    obtain ⟨hp, g, d, tk, os⟩ := s
    obtain ⟨hl, h⟩ := h
    have f1 := AutoSeq1.idx_int
    wp_walk using wpAny_loadPart' hl
    exact ⟨_, rfl, h⟩
theorem tuple_mul0 (l : Addr) (items : Array Value) (n : Nat) (dd : Option Addr) (sl : Array (Option Value)) (x : Int) (u : Tok) (c0 : (decide (x < -(2 ^ 63)) || decide (x ≥ 2 ^ 63)) = false) (c1 : (items.isEmpty || x == 1) = false) (c2 : (decide (x ≤ 0) || items.isEmpty) = true) :
    Meets (Builtin.«tuple.__mul__» ⟨[.ref l, .int x u], []⟩) (fun _ R s => s.heap.get? l = some { cls := .type "tuple", dict := dd, data := .seq items n, slots := sl } ∧
      R (.ok (.ret (Value.ref s.heap.objs.size))) { s with heap := s.heap.push { cls := Value.type "tuple", data := Data.seq #[] }, toks := s.toks }) :=
  .of_wp fun prog w A R s h => by
    obtain ⟨hp, g, d, tk, os⟩ := s
    obtain ⟨hl, h⟩ := h
    have f1 := AutoSeq1.idx_int
    wp_walk using wpAny_loadPart' hl
    repeat (first
      | (refine wpAny_ite_false (decide_eq_false (by rw [c0]; exact Bool.false_ne_true)) ?_; wp_walk using wpAny_loadPart' hl)
      | (refine wpAny_ite_false (decide_eq_false (by rw [c1]; exact Bool.false_ne_true)) ?_; wp_walk using wpAny_loadPart' hl)
      | (refine wpAny_ite_true (decide_eq_true c2) ?_; wp_walk using wpAny_loadPart' hl))
    exact ⟨_, rfl, h⟩
def rRepT1 (K : PySem.W.Frag) : R2 := fun x y H Q => ∃ l xs, x = .ref l ∧ y = .int 1 ∧ SqT K H l xs ∧ Q (.ref l) H
def rRepT0 (K : PySem.W.Frag) : R2 := fun x y H Q => ∃ l k xs, x = .ref l ∧ y = .int k ∧ SqT K H l xs ∧ xs ≠ [] ∧ -1000 ≤ k ∧ k ≤ 0 ∧ ∀ p, H p = none → Q (.ref p) (upd H p (.tup []))
section
variable {X : Cx}
theorem op_repT1 : OpR X (binaryOp .Mult) (rRepT1 X.K) := by
  intro pins s σ H x y v u Q I rx ry h
  obtain ⟨l, xs, rfl, rfl, hT, q⟩ := h
  cases rx
  obtain ⟨t, rfl⟩ := ry
  obtain ⟨its, r, ⟨⟨cls, dd, data, sl⟩, ho, hc, n, hd⟩, hs⟩ := I.tuple hT
  simp only at hc hd
  subst hc hd
  refine wpAny_binaryOp_repeat_ref (T := "tuple") (U := "int") (by decide) ⟨_, ho, rfl⟩ (fun s' => typeIs_int s' 1 t) noFill_tuple_mul F.fills_int_mul F.slot_int_rmul repeat_tuple F.slot_int_index.lookup
    (call_meets F.slot_int_rmul (typeIs_int s 1 t) F.entry_int_rmul (F.args_int_rmul_2 _ _) (int_rmul_tuple 1 t l its.toArray n dd sl)
      ⟨ho, rfl, ⟨_, ho, rfl⟩, call_meets F.slot_tuple_mul ⟨_, ho, rfl⟩ F.entry_tuple_mul (F.args_tuple_mul_2 _ _) (tuple_mul1 l its.toArray n dd sl t) ⟨ho, ?_⟩⟩)
  exact ⟨.ref l, H, I, rfl, q⟩
theorem op_repT0 : OpR X (binaryOp .Mult) (rRepT0 X.K) := by
  intro pins s σ H x y v u Q I rx ry h
  obtain ⟨l, k, xs, rfl, rfl, hT, hne, h1, h2, q⟩ := h
  cases rx
  obtain ⟨t, rfl⟩ := ry
  obtain ⟨its, r, ⟨⟨cls, dd, data, sl⟩, ho, hc, n, hd⟩, hs⟩ := I.tuple hT
  simp only at hc hd
  subst hc hd
  have hle : its.length = xs.length := r.length.symm
  have hn : its ≠ [] := fun e => hne (by
    rw [e] at hle
    exact List.eq_nil_of_length_eq_zero hle.symm)
  have hi : its.toArray.isEmpty = false := by
    cases its with
    | nil => exact absurd rfl hn
    | cons a b => rfl
  have c0 : (decide (k < -(2 ^ 63)) || decide (k ≥ 2 ^ 63)) = false := by
    rw [decide_eq_false (by omega), decide_eq_false (by omega)] <;> rfl
  have c1 : (its.toArray.isEmpty || k == 1) = false := by
    rw [hi, Bool.false_or]
    exact beq_eq_false_iff_ne.mpr (by omega)
  have c2 : (decide (k ≤ 0) || its.toArray.isEmpty) = true := by
    rw [decide_eq_true h2, Bool.true_or]
  refine wpAny_binaryOp_repeat_ref (T := "tuple") (U := "int") (by decide) ⟨_, ho, rfl⟩ (fun s' => typeIs_int s' k t) noFill_tuple_mul F.fills_int_mul F.slot_int_rmul repeat_tuple F.slot_int_index.lookup
    (call_meets F.slot_int_rmul (typeIs_int s k t) F.entry_int_rmul (F.args_int_rmul_2 _ _) (int_rmul_tuple k t l its.toArray n dd sl)
      ⟨ho, rfl, ⟨_, ho, rfl⟩, call_meets F.slot_tuple_mul ⟨_, ho, rfl⟩ F.entry_tuple_mul (F.args_tuple_mul_2 _ _) (tuple_mul0 l its.toArray n dd sl k t c0 c1 c2) ⟨ho, ?_⟩⟩)
  refine ⟨.ref s.heap.objs.size, _, I.laid (t' := s.toks) (o := .tup []) (fun b ob q => Heap.get?_push_of_some _ q) (Nat.le_refl _) ?_, rfl, q _ (I.hok.fresh (Nat.le_refl _))⟩
  exact ⟨by rw [sizeLine_eq]; simp, [], .nil, IsTup.new _ _⟩
def mulD : D → D → Sto → Option (D × Sto)
  | .int i, .int j, st => if CMul i j then some (.int (i * j), st) else none
  | .tup xs, .int k, st => if xs ≠ [] ∧ -1000 ≤ k ∧ k ≤ 1000 ∧ xs.length ≤ 1000 then some (.tup (List.replicate k.toNat xs).flatten, st) else none
  | .ref a, .int k, st => match st.get a with
    | some (.lst xs) => if -(2 ^ 63) ≤ k ∧ k < 2 ^ 63 ∧ xs.length * k.toNat ≤ SZ then some (.ref st.size, st.push (.lst (List.replicate k.toNat xs).flatten)) else none
    | _ => none
  | _, _, _ => none
def rMulA (K : PySem.W.Frag) : R2 := fun x y H Q => rI CMul (fun i j => .int (i * j)) x y H Q ∨ rRep x y H Q ∨ rRepT K x y H Q ∨ rRepT1 K x y H Q ∨ rRepT0 K x y H Q
theorem op_mulA : OpR X (binaryOp .Mult) (rMulA X.K) := op_mul.or (op_rep.or (op_repT.or (op_repT1.or op_repT0)))
theorem RDs.rep {K : PySem.W.Frag} {H : Hp} {α : Nat → Addr} {m : Nat} {xs : List D} {vs : List V} (h : RDs K H α m xs vs) : ∀ k : Nat, RDs K H α m (List.replicate k xs).flatten (List.replicate k vs).flatten
  | 0 => .nil
  | k + 1 => by
    rw [List.replicate_succ, List.replicate_succ, List.flatten_cons, List.flatten_cons]
    exact h.append (RDs.rep h k)
theorem mulD_ok {K : PySem.W.Frag} : OpD K mulD (rMulA K) := by
  intro H α st a b d st' v w Q rel h ra rb k
  unfold mulD at h
  split at h
  · split at h
    · rename_i hj
      cases h
      exact .inl ⟨_, _, rdInt ra, rdInt rb, hj, k H α _ (.refl rel) rInt⟩
    · cases h
  · rename_i xs i
    split at h
    · rename_i hj
      cases h
      obtain ⟨hn, h1, h2, h3⟩ := hj
      obtain ⟨p, vs, rfl, hs, hr⟩ := rdTup ra
      have hn' := hr.ne_nil hn
      by_cases c : 2 ≤ i
      · refine .inr (.inr (.inl ⟨p, i, vs, rfl, rdInt rb, hs, hn', c, h2, by rw [hr.length]; exact h3, fun q hq => ?_⟩))
        have S := rel.tup (vs := (List.replicate i.toNat vs).flatten) hq
        exact k _ α _ S (rTup (.of upd_same) ((hr.rep _).step S))
      · by_cases c1 : i = 1
        · subst c1
          refine .inr (.inr (.inr (.inl ⟨p, vs, rfl, rdInt rb, hs, k H α _ (.refl rel) (rTup hs ?_)⟩)))
          have := hr.rep 1
          simpa using hr
        · have hz : i.toNat = 0 := by omega
          refine .inr (.inr (.inr (.inr ⟨p, i, vs, rfl, rdInt rb, hs, hn', h1, by omega, fun q hq => ?_⟩)))
          have S := rel.tup (vs := []) hq
          refine k _ α _ S ?_
          rw [hz]
          exact rTup (.of upd_same) .nil
    · cases h
  · rename_i n i
    split at h
    · rename_i xs e
      split at h
      · rename_i hj
        cases h
        obtain ⟨vs, hs, hr⟩ := rel.lst e
        refine .inr (.inl ⟨_, i, vs, (rdRef ra).2, rdInt rb, hs, hj.1, hj.2.1, by rw [hr.length]; exact hj.2.2, fun p hp => ?_⟩)
        exact k _ _ _ (newL rel (hr.rep _) hp) rdNew
      · cases h
    · cases h
  · cases h
theorem de_mul {a b : Expr} {f g : M D} {pos : Pos} (ha : PE X a (tD X.K f)) (hb : PE X b (tD X.K g)) : PE X (.BinOp a .Mult b pos) (tD X.K (opF mulD f g)) := de_op op_mulA mulD_ok ha hb
/-! ### order -/
def ltD (r : Int → Int → Bool) : D → D → Sto → Option (D × Sto)
  | .int i, .int j, st => some (.bl (r i j), st)
  | _, _, _ => none
theorem ltD_ok {K : PySem.W.Frag} {r : Int → Int → Bool} : OpD K (ltD r) (rI0 fun i j => .bl (r i j)) := by
  intro H α st a b d st' v w Q rel h ra rb k
  unfold ltD at h
  split at h
  · cases h
    exact ⟨_, _, rdInt ra, rdInt rb, k H α _ (.refl rel) rBl⟩
  · cases h
section
variable {a b : Expr} {f g : M D} {pos : Pos}
theorem de_lt (ha : PE X a (tD X.K f)) (hb : PE X b (tD X.K g)) : PE X (.Compare a [.Lt] [b] pos) (tD X.K (opF (ltD fun i j => decide (i < j)) f g)) := de_cmp op_lt ltD_ok ha hb (nomark _)
theorem de_le (ha : PE X a (tD X.K f)) (hb : PE X b (tD X.K g)) : PE X (.Compare a [.LtE] [b] pos) (tD X.K (opF (ltD fun i j => decide (i ≤ j)) f g)) := de_cmp op_le ltD_ok ha hb (nomark _)
theorem de_gt (ha : PE X a (tD X.K f)) (hb : PE X b (tD X.K g)) : PE X (.Compare a [.Gt] [b] pos) (tD X.K (opF (ltD fun i j => decide (j < i)) f g)) := de_cmp op_gt ltD_ok ha hb (nomark _)
theorem de_ge (ha : PE X a (tD X.K f)) (hb : PE X b (tD X.K g)) : PE X (.Compare a [.GtE] [b] pos) (tD X.K (opF (ltD fun i j => decide (j ≤ i)) f g)) := de_cmp op_ge ltD_ok ha hb (nomark _)
theorem dt_lt (ha : PE X a (tD X.K f)) (hb : PE X b (tD X.K g)) : PT X (.Compare a [.Lt] [b] pos) (tDT X.K (tstF (opF (ltD fun i j => decide (i < j)) f g))) := dt_cmp op_lt ltD_ok ha hb (nomark _)
theorem dt_le (ha : PE X a (tD X.K f)) (hb : PE X b (tD X.K g)) : PT X (.Compare a [.LtE] [b] pos) (tDT X.K (tstF (opF (ltD fun i j => decide (i ≤ j)) f g))) := dt_cmp op_le ltD_ok ha hb (nomark _)
theorem dt_gt (ha : PE X a (tD X.K f)) (hb : PE X b (tD X.K g)) : PT X (.Compare a [.Gt] [b] pos) (tDT X.K (tstF (opF (ltD fun i j => decide (j < i)) f g))) := dt_cmp op_gt ltD_ok ha hb (nomark _)
theorem dt_ge (ha : PE X a (tD X.K f)) (hb : PE X b (tD X.K g)) : PT X (.Compare a [.GtE] [b] pos) (tDT X.K (tstF (opF (ltD fun i j => decide (j ≤ i)) f g))) := dt_cmp op_ge ltD_ok ha hb (nomark _)
end
/-! ### == -/
def pyL (f : D → Option PyData) : List D → Option (List PyData)
  | [] => some []
  | d :: ds => (f d).bind fun x => (pyL f ds).bind fun xs => some (x :: xs)
/-- a value as data, lists by what they hold now -/
def py : Nat → Sto → D → Option PyData
  | 0, _, _ => none
  | _ + 1, _, .non => some .none
  | _ + 1, _, .bl b => some (.bool b)
  | _ + 1, _, .int i => some (.int i)
  | _ + 1, _, .str s => some (.str s)
  | n + 1, st, .tup xs => (pyL (py n st) xs).bind fun ys => some (.tuple ys)
  | n + 1, st, .ref i => (st.seq i).bind fun xs => (pyL (py n st) xs).bind fun ys => some (.list ys)
section
variable {K : PySem.W.Frag} {H : Hp} {α : Nat → Addr} {st : Sto}
theorem pyL_dp {f : D → Option PyData} (hf : ∀ d p v, f d = some p → RD K H α st.size d v → Dp K H v p) : ∀ {ds : List D} {ps : List PyData} {vs : List V}, pyL f ds = some ps → RDs K H α st.size ds vs → DpAll K H vs ps
  | [], ps, vs, h, r => by cases h; unfold RDs at r; subst r; exact .nil
  | d :: ds, ps, vs, h, r => by
    obtain ⟨x, hx, h⟩ := bindS h
    obtain ⟨xs, hxs, h⟩ := bindS h
    cases h
    unfold RDs at r
    obtain ⟨v, vr, rfl, r1, r2⟩ := r
    exact .cons (hf _ _ _ hx r1) (pyL_dp hf hxs r2)
theorem py_dp (rel : Rel K H α st) : ∀ (n : Nat) (d : D) (p : PyData) (v : V), py n st d = some p → RD K H α st.size d v → Dp K H v p
  | 0, _, _, _, h, _ => by cases h
  | n + 1, .non, _, _, h, r => by cases h; rw [rdNon r]; exact .non
  | n + 1, .bl b, _, _, h, r => by cases h; rw [rdBl r]; exact .bl _
  | n + 1, .int b, _, _, h, r => by cases h; rw [rdInt r]; exact .int _
  | n + 1, .str b, _, _, h, r => by cases h; rw [rdStr r]; exact .str _
  | n + 1, .tup xs, _, _, h, r => by
    obtain ⟨ys, hy, h⟩ := bindS h
    cases h
    obtain ⟨a, vs, rfl, h1, h2⟩ := rdTup r
    exact .tup h1 (pyL_dp (fun d p v => py_dp rel n d p v) hy h2)
  | n + 1, .ref i, _, _, h, r => by
    obtain ⟨xs, hx, h⟩ := bindS h
    obtain ⟨ys, hy, h⟩ := bindS h
    cases h
    obtain ⟨_, rfl⟩ := rdRef r
    obtain ⟨vs, h1, h2⟩ := rel.seq hx
    exact .lst h1 (pyL_dp (fun d p v => py_dp rel n d p v) hy h2)
end
def eqD (neg : Bool) : D → D → Sto → Option (D × Sto) := fun a b st => (py 64 st a).bind fun x => (py 64 st b).bind fun y => if SeqAt.shaped x = true ∧ SeqAt.shaped y = true then some (.bl (if neg then !PyData.eqv x y else PyData.eqv x y), st) else none
theorem eqD_ok {K : PySem.W.Frag} : OpD K (eqD false) (rEqD K) := by
  intro H α st a b d st' v w Q rel h ra rb k
  obtain ⟨x, hx, h⟩ := bindS h
  obtain ⟨y, hy, h⟩ := bindS h
  split at h
  · rename_i hs
    cases h
    exact ⟨x, y, py_dp rel _ _ _ _ hx ra, py_dp rel _ _ _ _ hy rb, hs.1, hs.2, k H α _ (.refl rel) rBl⟩
  · cases h
theorem neD_ok {K : PySem.W.Frag} : OpD K (eqD true) (rNeD K) := by
  intro H α st a b d st' v w Q rel h ra rb k
  obtain ⟨x, hx, h⟩ := bindS h
  obtain ⟨y, hy, h⟩ := bindS h
  split at h
  · rename_i hs
    cases h
    exact ⟨x, y, py_dp rel _ _ _ _ hx ra, py_dp rel _ _ _ _ hy rb, hs.1, hs.2, k H α _ (.refl rel) rBl⟩
  · cases h
section
variable {a b : Expr} {f g : M D} {pos : Pos}
theorem de_eq (hu : X.A.units + 64 < cLine) (ha : PE X a (tD X.K f)) (hb : PE X b (tD X.K g)) : PE X (.Compare a [.Eq] [b] pos) (tD X.K (opF (eqD false) f g)) := de_cmp (op_eqD hu) eqD_ok ha hb (nomark _)
theorem de_ne (hu : X.A.units + 64 < cLine) (ha : PE X a (tD X.K f)) (hb : PE X b (tD X.K g)) : PE X (.Compare a [.NotEq] [b] pos) (tD X.K (opF (eqD true) f g)) := de_cmp (op_neD hu) neD_ok ha hb (nomark _)
theorem dt_eq (hu : X.A.units + 64 < cLine) (ha : PE X a (tD X.K f)) (hb : PE X b (tD X.K g)) : PT X (.Compare a [.Eq] [b] pos) (tDT X.K (tstF (opF (eqD false) f g))) := dt_cmp (op_eqD hu) eqD_ok ha hb (nomark _)
theorem dt_ne (hu : X.A.units + 64 < cLine) (ha : PE X a (tD X.K f)) (hb : PE X b (tD X.K g)) : PT X (.Compare a [.NotEq] [b] pos) (tDT X.K (tstF (opF (eqD true) f g))) := dt_cmp (op_neD hu) neD_ok ha hb (nomark _)
end
/-! ### is None -/
def isNonD : D → Bool
  | .non => true
  | _ => false
def isND (neg : Bool) : D → D → Sto → Option (D × Sto)
  | a, .non, st => some (.bl (if neg then !isNonD a else isNonD a), st)
  | _, _, _ => none
theorem isNon_rel {K : PySem.W.Frag} {H : Hp} {α : Nat → Addr} {m : Nat} {a : D} {v : V} (r : RD K H α m a v) : decide (v = .non) = isNonD a := by
  cases a with
  | non => rw [rdNon r]; rfl
  | bl b => rw [rdBl r]; rfl
  | int b => rw [rdInt r]; rfl
  | str b => rw [rdStr r]; rfl
  | tup xs => obtain ⟨p, vs, rfl, _⟩ := rdTup r; rfl
  | ref n => rw [(rdRef r).2]; rfl
theorem isND_ok {K : PySem.W.Frag} : OpD K (isND false) (fun x y H Q => y = .non ∧ Q (.bl (decide (x = .non))) H) := by
  intro H α st a b d st' v w Q rel h ra rb k
  unfold isND at h
  split at h
  · cases h
    exact ⟨rdNon rb, by rw [isNon_rel ra]; exact k H α _ (.refl rel) rBl⟩
  · cases h
theorem notND_ok {K : PySem.W.Frag} : OpD K (isND true) (fun x y H Q => y = .non ∧ Q (.bl (!decide (x = .non))) H) := by
  intro H α st a b d st' v w Q rel h ra rb k
  unfold isND at h
  split at h
  · cases h
    exact ⟨rdNon rb, by rw [isNon_rel ra]; exact k H α _ (.refl rel) rBl⟩
  · cases h
section
variable {a b : Expr} {f g : M D} {pos : Pos}
theorem de_is (ha : PE X a (tD X.K f)) (hb : PE X b (tD X.K g)) : PE X (.Compare a [.Is] [b] pos) (tD X.K (opF (isND false) f g)) := de_cmp op_isN isND_ok ha hb (nomark _)
theorem de_isnot (ha : PE X a (tD X.K f)) (hb : PE X b (tD X.K g)) : PE X (.Compare a [.IsNot] [b] pos) (tD X.K (opF (isND true) f g)) := de_cmp op_notN notND_ok ha hb (nomark _)
theorem dt_is (ha : PE X a (tD X.K f)) (hb : PE X b (tD X.K g)) : PT X (.Compare a [.Is] [b] pos) (tDT X.K (tstF (opF (isND false) f g))) := dt_cmp op_isN isND_ok ha hb (nomark _)
theorem dt_isnot (ha : PE X a (tD X.K f)) (hb : PE X b (tD X.K g)) : PT X (.Compare a [.IsNot] [b] pos) (tDT X.K (tstF (opF (isND true) f g))) := dt_cmp op_notN notND_ok ha hb (nomark _)
end
/-! ### in, not in -/
def flatD : D → Bool
  | .non => true
  | .bl _ => true
  | .int _ => true
  | .str _ => true
  | _ => false
def eqF1 : D → D → Bool
  | .non, .non => true
  | .bl a, .bl b => a == b
  | .bl a, .int b => (if a then 1 else 0) == b
  | .int a, .bl b => a == (if b then 1 else 0)
  | .int a, .int b => a == b
  | .str a, .str b => a == b
  | _, _ => false
def inSeq (x : D) (xs : List D) : Bool := xs.any fun y => eqF1 y x
section
variable {K : PySem.W.Frag} {H : Hp} {α : Nat → Addr} {m : Nat}
theorem flat_rel {a : D} {v : V} (r : RD K H α m a v) (f : flatD a = true) : flatV v = true := by
  cases a with
  | non => rw [rdNon r]; rfl
  | bl b => rw [rdBl r]; rfl
  | int b => rw [rdInt r]; rfl
  | str b => rw [rdStr r]; rfl
  | tup xs => cases f
  | ref n => cases f
theorem flats_rel : ∀ {a : List D} {v : List V}, RDs K H α m a v → a.all flatD = true → v.all flatV = true
  | [], _, r, _ => by unfold RDs at r; subst r; rfl
  | d :: ds, _, r, f => by
    unfold RDs at r
    obtain ⟨v, vr, rfl, r1, r2⟩ := r
    rw [List.all_cons, Bool.and_eq_true] at f ⊢
    exact ⟨flat_rel r1 f.1, flats_rel r2 f.2⟩
theorem eq1_rel {a b : D} {v w : V} (r : RD K H α m a v) (q : RD K H α m b w) (f : flatD a = true) (g : flatD b = true) : eqV v w = eqF1 a b := by
  cases a with
  | non => rw [rdNon r]; cases b with
    | non => rw [rdNon q]; rfl
    | bl b => rw [rdBl q]; rfl
    | int b => rw [rdInt q]; rfl
    | str b => rw [rdStr q]; rfl
    | tup xs => cases g
    | ref n => cases g
  | bl b => rw [rdBl r]; cases b with
    | false => cases ‹D› with
      | non => rw [rdNon q]; rfl
      | bl b => rw [rdBl q]; rfl
      | int b => rw [rdInt q]; rfl
      | str b => rw [rdStr q]; rfl
      | tup xs => cases g
      | ref n => cases g
    | true => cases ‹D› with
      | non => rw [rdNon q]; rfl
      | bl b => rw [rdBl q]; rfl
      | int b => rw [rdInt q]; rfl
      | str b => rw [rdStr q]; rfl
      | tup xs => cases g
      | ref n => cases g
  | int i => rw [rdInt r]; cases b with
    | non => rw [rdNon q]; rfl
    | bl b => rw [rdBl q]; rfl
    | int b => rw [rdInt q]; rfl
    | str b => rw [rdStr q]; rfl
    | tup xs => cases g
    | ref n => cases g
  | str i => rw [rdStr r]; cases b with
    | non => rw [rdNon q]; rfl
    | bl b => rw [rdBl q]; rfl
    | int b => rw [rdInt q]; rfl
    | str b => rw [rdStr q]; rfl
    | tup xs => cases g
    | ref n => cases g
  | tup xs => cases f
  | ref n => cases f
theorem in_rel {x : D} {v : V} (r : RD K H α m x v) (f : flatD x = true) : ∀ {xs : List D} {vs : List V}, RDs K H α m xs vs → xs.all flatD = true → inV v vs = inSeq x xs
  | [], _, q, _ => by unfold RDs at q; subst q; rfl
  | d :: ds, _, q, g => by
    unfold RDs at q
    obtain ⟨w, vr, rfl, r1, r2⟩ := q
    rw [List.all_cons, Bool.and_eq_true] at g
    have ih := in_rel r f r2 g.2
    unfold inV inSeq at ih ⊢
    rw [List.any_cons, List.any_cons, eq1_rel r1 r g.1 f, ih]
end
/-- what stands behind in: a sequence, a dict -/
def inD (neg : Bool) : D → D → Sto → Option (D × Sto)
  | x, .tup xs, st => if flatD x = true ∧ xs.all flatD = true then some (.bl (if neg then !inSeq x xs else inSeq x xs), st) else none
  | x, .ref n, st => match st.get n with
    | some (.lst xs) => if flatD x = true ∧ xs.all flatD = true then some (.bl (if neg then !inSeq x xs else inSeq x xs), st) else none
    | some (.frl xs) => if flatD x = true ∧ xs.all flatD = true then some (.bl (if neg then !inSeq x xs else inSeq x xs), st) else none
    | some (.dic kvs) => x.key.map fun k => (.bl (if neg then !(kGet kvs k).isSome else (kGet kvs k).isSome), st)
    | some (.frd kvs) => x.key.map fun k => (.bl (if neg then !(kGet kvs k).isSome else (kGet kvs k).isSome), st)
    | _ => none
  | _, _, _ => none
def rDIn (neg : Bool) : R2 := fun y x H Q => ∃ a o, x = .ref a ∧ DGet H a y o ∧ Q (.bl (if neg then !o.isSome else o.isSome)) H
theorem inD_ok {K : PySem.W.Frag} {neg : Bool} (H : Hp) (α : Nat → Addr) (st : Sto) (a b d : D) (st' : Sto) (v w : V) (Q : VK) (rel : Rel K H α st) (h : inD neg a b st = some (d, st'))
    (ra : RD K H α st.size a v) (rb : RD K H α st.size b w) (k : ∀ H' α' u, Step K H α st.size H' α' st' → RD K H' α' st'.size d u → Q u H') : (isDic st b = true → rDIn neg v w H Q) ∧ (isDic st b = false → rIn K neg v w H Q) := by
  have lst : ∀ {n : Nat} {xs : List D}, b = .ref n → (if flatD a = true ∧ xs.all flatD = true then some (D.bl (if neg then !inSeq a xs else inSeq a xs), st) else none) = some (d, st') → (∃ vs, SqL K H (α n) vs ∧ RDs K H α st.size xs vs) → rIn K neg v w H Q := by
    intro n xs eb g hs
    rw [eb] at rb
    split at g
    · rename_i hf
      cases g
      obtain ⟨vs, h1, h2⟩ := hs
      exact ⟨_, vs, (rdRef rb).2, .inl h1, flat_rel ra hf.1, flats_rel h2 hf.2, by rw [in_rel ra hf.1 h2 hf.2]; exact k H α _ (.refl rel) rBl⟩
    · cases g
  have dct : ∀ {n : Nat} {kvs : List (Key × D)}, b = .ref n → (a.key.map fun k => (D.bl (if neg then !(kGet kvs k).isSome else (kGet kvs k).isSome), st)) = some (d, st') → (∃ vs, Rd H (α n) (.dK vs) ∧ RKV K H α st.size kvs vs) → rDIn neg v w H Q := by
    intro n kvs eb g hs
    rw [eb] at rb
    obtain ⟨key, hk, e⟩ := mapS g
    cases e
    obtain ⟨vs, h1, h2⟩ := hs
    have e : (valV vs key).isSome = (kGet kvs key).isSome := by
      cases q : kGet kvs key with
      | none => rw [(RKV.get key h2).2 q]; rfl
      | some x => obtain ⟨u, hu, _⟩ := (RKV.get key h2).1 _ q; rw [hu]; rfl
    exact ⟨_, valV vs key, (rdRef rb).2, .inl ⟨vs, key, h1, rdKey hk ra, rfl⟩, by rw [e]; exact k H α _ (.refl rel) rBl⟩
  unfold inD at h
  split at h
  · split at h
    · rename_i hf
      cases h
      obtain ⟨p, vs, rfl, h1, h2⟩ := rdTup rb
      exact ⟨fun z => (by cases z), fun _ => ⟨_, vs, rfl, .inr h1, flat_rel ra hf.1, flats_rel h2 hf.2, by rw [in_rel ra hf.1 h2 hf.2]; exact k H α _ (.refl rel) rBl⟩⟩
    · cases h
  · split at h
    · rename_i e; exact ⟨fun z => (by unfold isDic at z; simp only [e] at z; cases z), fun _ => lst rfl h (rel.seq (by unfold Sto.seq; rw [e]; rfl))⟩
    · rename_i e; exact ⟨fun z => (by unfold isDic at z; simp only [e] at z; cases z), fun _ => lst rfl h (rel.seq (by unfold Sto.seq; rw [e]; rfl))⟩
    · rename_i e; exact ⟨fun _ => dct rfl h (rel.map (by unfold Sto.map; rw [e]; rfl)), fun z => (by unfold isDic at z; simp only [e] at z; cases z)⟩
    · rename_i e; exact ⟨fun _ => dct rfl h (rel.map (by unfold Sto.map; rw [e]; rfl)), fun z => (by unfold isDic at z; simp only [e] at z; cases z)⟩
    · cases h
  · cases h
end
end Dn
/-! in, slices, built-in functions. -/
namespace Dn
open PySem PySem.Spec PyProof.Rows L2
section
variable {X : Cx} {a b e : Expr} {f g : M D} {pos : Pos}
/-! ### in -/
theorem in_weak {neg : Bool} {K : PySem.W.Frag} : ∀ σ H Q, tD K (opF (inD neg) f g) σ H Q → tOp (rIn K neg) (tD K f) (tD K g) σ H Q ∨ tOp (rDIn neg) (tD K f) (tD K g) σ H Q := by
  rintro σ H Q ⟨α, st, env, d, st', rel, re, h, k⟩
  obtain ⟨⟨a', s1⟩, ha', h⟩ := bindS h
  obtain ⟨⟨b', s2⟩, hb', h⟩ := bindS h
  cases hd : isDic s2 b' with
  | true =>
    refine .inr ⟨α, st, env, a', s1, rel, re, ha', fun H1 α1 v S1 rv => ⟨α1, s1, env, b', s2, S1.rel, re.step S1, hb', fun H2 α2 w S2 rw => ?_⟩⟩
    exact (inD_ok H2 α2 s2 a' b' d st' v w Q S2.rel h (rv.step S2) rw fun H' α' u S3 ru => k H' α' u (S1.trans (S2.trans S3)) ru).1 hd
  | false =>
    refine .inl ⟨α, st, env, a', s1, rel, re, ha', fun H1 α1 v S1 rv => ⟨α1, s1, env, b', s2, S1.rel, re.step S1, hb', fun H2 α2 w S2 rw => ?_⟩⟩
    exact (inD_ok H2 α2 s2 a' b' d st' v w Q S2.rel h (rv.step S2) rw fun H' α' u S3 ru => k H' α' u (S1.trans (S2.trans S3)) ru).2 hd
theorem din_t {K : PySem.W.Frag} {neg : Bool} {tf tg : TE} : ∀ σ H Q, tOp (rDIn neg) tf tg σ H Q → (if neg then tDNotIn tf tg else tDIn tf tg) σ H Q := by
  intro σ H Q q
  cases neg with
  | true => exact q
  | false => exact q
theorem de_in (hu : X.A.units + 1 < cLine) (ha : PE X a (tD X.K f)) (hb : PE X b (tD X.K g)) (hm : behindInMarks .In b = false := by rfl) : PE X (.Compare a [.In] [b] pos) (tD X.K (opF (inD false) f g)) :=
  weE (orE (pe_cmpR op_in_seq ha hb hm) (pe_cmp (pc_din hu ha hb) hm)) fun σ H Q q => (in_weak σ H Q q).elim .inl fun z => .inr (din_t (K := X.K) (neg := false) σ H Q z)
theorem de_notin (hu : X.A.units + 1 < cLine) (ha : PE X a (tD X.K f)) (hb : PE X b (tD X.K g)) (hm : behindInMarks .NotIn b = false := by rfl) : PE X (.Compare a [.NotIn] [b] pos) (tD X.K (opF (inD true) f g)) :=
  weE (orE (pe_cmpR op_notIn_seq ha hb hm) (pe_cmp (pc_dnotin hu ha hb) hm)) fun σ H Q q => (in_weak σ H Q q).elim .inl fun z => .inr (din_t (K := X.K) (neg := true) σ H Q z)
theorem orT {e : Expr} {t t' : TT} (h : PT X e t) (h' : PT X e t') : PT X e (fun σ H Q => t σ H Q ∨ t' σ H Q) :=
  ⟨fun pins s σ H Q I q => q.elim (h.run pins s σ H Q I) (h'.run pins s σ H Q I)⟩
theorem tst_or {K : PySem.W.Frag} {f : M D} {t t' : TE} (ht : ∀ σ H Q, tD K f σ H Q → t σ H Q ∨ t' σ H Q) : ∀ σ H Q, tDT K (tstF f) σ H Q → (t σ H fun x H' => ∃ k, x = .bl k ∧ Q k H') ∨ (t' σ H fun x H' => ∃ k, x = .bl k ∧ Q k H') :=
  tst_ok (t := fun σ H Q => t σ H Q ∨ t' σ H Q) ht
theorem dt_in (hu : X.A.units + 1 < cLine) (ha : PE X a (tD X.K f)) (hb : PE X b (tD X.K g)) (hm : behindInMarks .In b = false := by rfl) : PT X (.Compare a [.In] [b] pos) (tDT X.K (tstF (opF (inD false) f g))) :=
  weT (orT (pt_cmpR op_in_seq ha hb hm) (pt_cmp (pc_din hu ha hb) hm)) fun σ H Q q => (tst_or in_weak σ H Q q).elim .inl fun z => .inr (din_t (K := X.K) (neg := false) σ H _ z)
theorem dt_notin (hu : X.A.units + 1 < cLine) (ha : PE X a (tD X.K f)) (hb : PE X b (tD X.K g)) (hm : behindInMarks .NotIn b = false := by rfl) : PT X (.Compare a [.NotIn] [b] pos) (tDT X.K (tstF (opF (inD true) f g))) :=
  weT (orT (pt_cmpR op_notIn_seq ha hb hm) (pt_cmp (pc_dnotin hu ha hb) hm)) fun σ H Q q => (tst_or in_weak σ H Q q).elim .inl fun z => .inr (din_t (K := X.K) (neg := true) σ H _ z)
/-! ### slices -/
abbrev MO := Env → Sto → Option (Option Int × Sto)
def tDO (K : PySem.W.Frag) (f : MO) : TO := fun σ H Q => ∃ α st env o st', Rel K H α st ∧ RE K H α st.size σ env ∧ f env st = some (o, st') ∧ ∀ H' α', Step K H α st.size H' α' st' → Q o H'
def noF : MO := fun _ st => some (none, st)
def soF (f : M D) : MO := fun env st => (f env st).bind fun p => match p.1 with
  | .int i => some (some i, p.2)
  | _ => none
theorem do_none : PO X none (tDO X.K noF) := ⟨fun pins s σ H Q I q => po_none.run pins s σ H Q I (by
  obtain ⟨α, st, env, o, st', rel, re, h, k⟩ := q
  cases h
  exact k H α (.refl rel))⟩
theorem do_some (he : PE X e (tD X.K f)) : PO X (some e) (tDO X.K (soF f)) := ⟨fun pins s σ H Q I q => (po_some he).run pins s σ H Q I (by
  obtain ⟨α, st, env, o, st', rel, re, h, k⟩ := q
  obtain ⟨⟨x, s1⟩, hx, h⟩ := bindS h
  cases x with
  | int i =>
    cases h
    exact ⟨α, st, env, .int i, s1, rel, re, hx, fun H1 α1 v S1 rv => ⟨i, rdInt rv, k H1 α1 S1⟩⟩
  | _ => cases h)⟩
def cutD (xs : List D) (lo hi : Option Int) : List D := (xs.drop (HT.sIx xs.length 0 lo)).take (HT.sIx xs.length xs.length hi - HT.sIx xs.length 0 lo)
theorem cut_rel {K : PySem.W.Frag} {H : Hp} {α : Nat → Addr} {m : Nat} {xs : List D} {vs : List V} {lo hi : Option Int} (r : RDs K H α m xs vs) : RDs K H α m (cutD xs lo hi) (cutV vs lo hi) := by
  unfold cutD cutV
  rw [r.length]
  exact (r.drop _).take _
def slF (f : M D) (lo hi : MO) : M D := fun env st => (f env st).bind fun p => (lo env p.2).bind fun q => (hi env q.2).bind fun r => match p.1 with
  | .tup xs => some (.tup (cutD xs q.1 r.1), r.2)
  | .ref n => match r.2.seq n with
    | some xs => some (.ref r.2.size, r.2.push (.lst (cutD xs q.1 r.1)))
    | none => none
  | _ => none
theorem de_slice {lo hi : Option Expr} {fl fh : MO} {p2 : Pos} (he : PE X e (tD X.K f)) (hl : PO X lo (tDO X.K fl)) (hh : PO X hi (tDO X.K fh)) : PE X (.Subscript e (.Slice lo hi none p2) pos) (tD X.K (slF f fl fh)) :=
  weE (pe_slice (sl_tupA.or sl_list) he hl hh) (by
  rintro σ H Q ⟨α, st, env, d, st', rel, re, h, k⟩
  obtain ⟨⟨x, s1⟩, hx, h⟩ := bindS h
  obtain ⟨⟨l, s2⟩, hl', h⟩ := bindS h
  obtain ⟨⟨u, s3⟩, hh', h⟩ := bindS h
  refine ⟨α, st, env, x, s1, rel, re, hx, fun H1 α1 v S1 rv => ⟨α1, s1, env, l, s2, S1.rel, re.step S1, hl', fun H2 α2 S2 => ⟨α2, s2, env, u, s3, S2.rel, (re.step S1).step S2, hh', fun H3 α3 S3 => ?_⟩⟩⟩
  have rv3 := (rv.step S2).step S3
  have S13 := S1.trans (S2.trans S3)
  cases x with
  | tup xs =>
    cases h
    obtain ⟨p, vs, rfl, h1, h2⟩ := rdTup rv3
    refine .inl ⟨p, vs, rfl, h1, fun hw => ?_, fun hw q hq => ?_⟩
    · refine k H3 α3 _ S13 (rTup h1 ?_)
      have e : cutD xs l u = xs := by
        unfold cutD
        rw [← h2.length, hw.1, hw.2]
        simp [h2.length]
      rw [e]
      exact h2
    · have S := S3.rel.tup (vs := cutV vs l u) hq
      exact k _ α3 _ (S13.trans S) (rTup (.of upd_same) ((cut_rel h2).step S))
  | ref n =>
    cases hs : s3.seq n with
    | none =>
      simp only [hs] at h
      cases h
    | some xs =>
      simp only [hs] at h
      cases h
      obtain ⟨vs, h1, h2⟩ := S3.rel.seq hs
      refine .inr ⟨_, vs, (rdRef rv3).2, h1, fun p hp => ?_⟩
      exact k _ _ _ (S13.trans (newL S3.rel (cut_rel h2) hp)) rdNew
  | _ => cases h)
/-! ### a built-in function of one thing -/
def Call1 (K : PySem.W.Frag) (op : D → Sto → Option (D × Sto)) (r : List V → Hp → VK → Prop) : Prop := UnD K op fun v H Q => r [v] H Q
theorem call1_ok {K : PySem.W.Frag} {op : D → Sto → Option (D × Sto)} {r : List V → Hp → VK → Prop} (cd : Call1 K op r) : ∀ σ H Q, tD K (unF op f) σ H Q → tCB r (tDA K (consF f nilF)) σ H Q := by
  rintro σ H Q ⟨α, st, env, d, st', rel, re, h, k⟩
  obtain ⟨⟨x, s1⟩, hx, h⟩ := bindS h
  refine ⟨α, st, env, [x], s1, rel, re, by unfold consF nilF; rw [hx]; rfl, fun H1 α1 vs S1 rvs => ?_⟩
  unfold RDs at rvs
  obtain ⟨v, vr, rfl, r1, r2⟩ := rvs
  unfold RDs at r2
  subst r2
  exact cd H1 α1 s1 x d st' v Q S1.rel h r1 fun H' α' u S3 ru => k H' α' u (S1.trans S3) ru
theorem de_callB {x : Str} {p : Pos} {id : String} {r : List V → Hp → VK → Prop} {op : D → Sto → Option (D × Sto)} (hc : CallR X (.builtin id) r) (cd : Call1 X.K op r) (hg : Gl X x) (hm : X.mg x = none) (hv : bootBuiltins x = some (.builtin id)) (ha : PE X e (tD X.K f))
    (hn : x ≠ "__name__" := by decide) (hdb : (x == ("__debug__" : Str)) = false := by decide)
    (he : starEach [e] X.env = (false, eval e X.env) :: starEach [] X.env := by rfl) (hpl : (backTo pos (starEach [] X.env)).any (·.1) = false := by rfl) : PE X (.Call (.Name x p) [e] [] pos) (tD X.K (unF op f)) :=
  weE (pe_callB hc hg hm hv (da_cons ha da_nil he) hn hdb he hpl) (call1_ok cd)
theorem de_callT {x : Str} {p : Pos} {T : String} {r : List V → Hp → VK → Prop} {op : D → Sto → Option (D × Sto)} (hc : CallR X (.type T) r) (cd : Call1 X.K op r) (hg : Gl X x) (hm : X.mg x = none) (hv : bootBuiltins x = some (.type T)) (ha : PE X e (tD X.K f))
    (hn : x ≠ "__name__" := by decide) (hdb : (x == ("__debug__" : Str)) = false := by decide)
    (he : starEach [e] X.env = (false, eval e X.env) :: starEach [] X.env := by rfl) (hpl : (backTo pos (starEach [] X.env)).any (·.1) = false := by rfl) : PE X (.Call (.Name x p) [e] [] pos) (tD X.K (unF op f)) :=
  weE (pe_callTy hc hg hm hv (da_cons ha da_nil he) hn hdb he hpl) (call1_ok cd)
/-! ### len -/
def lenD : D → Sto → Option (D × Sto)
  | .str z, st => if z.length ≤ SZ then some (.int z.length, st) else none
  | .tup xs, st => some (.int xs.length, st)
  | .ref n, st => match st.get n with
    | some (.lst xs) => some (.int xs.length, st)
    | some (.frl xs) => some (.int xs.length, st)
    | some (.dic xs) => some (.int xs.length, st)
    | some (.frd xs) => some (.int xs.length, st)
    | _ => none
  | _, _ => none
theorem call_lenA : CallR X (.builtin "len") (fun xs H Q => (∃ p ys, xs = [.ref p] ∧ (SqL X.K H p ys ∨ SqT X.K H p ys) ∧ Q (.int ys.length) H) ∨ (∃ z, xs = [.str z] ∧ z.length ≤ sizeLine ∧ Q (.int z.length) H) ∨ ∃ a kvs, xs = [.ref a] ∧ Rd H a (.dK kvs) ∧ Q (.int kvs.length) H) := by
  refine call_len_seq.or (call_len_str.or ?_)
  intro pins s σ H xs us Q I r h
  obtain ⟨p, kvs, rfl, hr, q⟩ := h
  obtain ⟨u, rfl, rx⟩ := vals1 r
  cases rx
  exact d_len I hr fun t s' I' => ⟨.int kvs.length, H, I', ⟨t, rfl⟩, q⟩
theorem lenD_ok {K : PySem.W.Frag} : Call1 K lenD (fun xs H Q => (∃ p ys, xs = [.ref p] ∧ (SqL K H p ys ∨ SqT K H p ys) ∧ Q (.int ys.length) H) ∨ (∃ z, xs = [.str z] ∧ z.length ≤ sizeLine ∧ Q (.int z.length) H) ∨ ∃ a kvs, xs = [.ref a] ∧ Rd H a (.dK kvs) ∧ Q (.int kvs.length) H) := by
  intro H α st a d st' v Q rel h ra k
  have dct : ∀ {n : Nat} {kvs : List (Key × D)}, a = .ref n → st.map n = some kvs → some (D.int kvs.length, st) = some (d, st') → ∃ a kvs, [v] = [V.ref a] ∧ Rd H a (.dK kvs) ∧ Q (.int kvs.length) H := by
    intro n kvs ea e g
    rw [ea] at ra
    cases g
    obtain ⟨vs, h1, h2⟩ := rel.map e
    exact ⟨_, vs, by rw [(rdRef ra).2], h1, by rw [h2.length]; exact k H α _ (.refl rel) rInt⟩
  have lst : ∀ {n : Nat} {xs : List D}, a = .ref n → st.seq n = some xs → some (D.int xs.length, st) = some (d, st') → ∃ p ys, [v] = [V.ref p] ∧ (SqL K H p ys ∨ SqT K H p ys) ∧ Q (.int ys.length) H := by
    intro n kvs ea e g
    rw [ea] at ra
    cases g
    obtain ⟨vs, h1, h2⟩ := rel.seq e
    exact ⟨_, vs, by rw [(rdRef ra).2], .inl h1, by rw [h2.length]; exact k H α _ (.refl rel) rInt⟩
  unfold lenD at h
  split at h
  · split at h
    · rename_i hz
      cases h
      exact .inr (.inl ⟨_, by rw [rdStr ra], hz, k H α _ (.refl rel) rInt⟩)
    · cases h
  · cases h
    obtain ⟨p, vs, rfl, h1, h2⟩ := rdTup ra
    exact .inl ⟨p, vs, rfl, .inr h1, by rw [h2.length]; exact k H α _ (.refl rel) rInt⟩
  · split at h
    · rename_i e; exact .inl (lst rfl (by unfold Sto.seq; rw [e]; rfl) h)
    · rename_i e; exact .inl (lst rfl (by unfold Sto.seq; rw [e]; rfl) h)
    · rename_i e; exact .inr (.inr (dct rfl (by unfold Sto.map; rw [e]; rfl) h))
    · rename_i e; exact .inr (.inr (dct rfl (by unfold Sto.map; rw [e]; rfl) h))
    · cases h
  · cases h
theorem de_len {p : Pos} (hg : Gl X "len") (hm : X.mg "len" = none) (ha : PE X e (tD X.K f)) (he : starEach [e] X.env = (false, eval e X.env) :: starEach [] X.env := by rfl) (hpl : (backTo pos (starEach [] X.env)).any (·.1) = false := by rfl) :
    PE X (.Call (.Name "len" p) [e] [] pos) (tD X.K (unF lenD f)) := de_callB call_lenA lenD_ok hg hm PySem.boot_len ha (by decide) (by decide) he hpl
/-! ### abs, int -/
def absD : D → Sto → Option (D × Sto)
  | .int i, st => some (.int (if i < 0 then -i else i), st)
  | _, _ => none
theorem absD_ok {K : PySem.W.Frag} : Call1 K absD (fun xs H Q => ∃ i, xs = [.int i] ∧ Q (.int (if i < 0 then -i else i)) H) := by
  intro H α st a d st' v Q rel h ra k
  cases a with
  | int i => cases h; exact ⟨i, by rw [rdInt ra], k H α _ (.refl rel) rInt⟩
  | _ => cases h
theorem de_abs {p : Pos} (hg : Gl X "abs") (hm : X.mg "abs" = none) (ha : PE X e (tD X.K f)) (he : starEach [e] X.env = (false, eval e X.env) :: starEach [] X.env := by rfl) (hpl : (backTo pos (starEach [] X.env)).any (·.1) = false := by rfl) :
    PE X (.Call (.Name "abs" p) [e] [] pos) (tD X.K (unF absD f)) := de_callB call_abs absD_ok hg hm (by decide +kernel) ha (by decide) (by decide) he hpl
def intD : D → Sto → Option (D × Sto)
  | .int i, st => some (.int i, st)
  | .bl b, st => some (.int (if b then 1 else 0), st)
  | _, _ => none
theorem intD_ok {K : PySem.W.Frag} : Call1 K intD (fun xs H Q => (∃ i, xs = [.int i] ∧ Q (.int i) H) ∨ ∃ k, xs = [.bl k] ∧ Q (.int (if k then 1 else 0)) H) := by
  intro H α st a d st' v Q rel h ra k
  cases a with
  | int i => cases h; exact .inl ⟨i, by rw [rdInt ra], k H α _ (.refl rel) rInt⟩
  | bl i => cases h; exact .inr ⟨i, by rw [rdBl ra], k H α _ (.refl rel) rInt⟩
  | _ => cases h
theorem de_intc {p : Pos} (hg : Gl X "int") (hm : X.mg "int" = none) (ha : PE X e (tD X.K f)) (he : starEach [e] X.env = (false, eval e X.env) :: starEach [] X.env := by rfl) (hpl : (backTo pos (starEach [] X.env)).any (·.1) = false := by rfl) :
    PE X (.Call (.Name "int" p) [e] [] pos) (tD X.K (unF intD f)) := de_callT call_int1 intD_ok hg hm (by decide +kernel) ha (by decide) (by decide) he hpl
/-! ### list, tuple, dict of a thing -/
def kD : Key → D
  | .inl i => .int i
  | .inr s => .str s
theorem rKey {K : PySem.W.Frag} {H : Hp} {α : Nat → Addr} {m : Nat} {k : Key} : RD K H α m (kD k) (kV k) := by
  cases k with
  | inl i => exact rInt
  | inr i => exact rStr
theorem rKeys {K : PySem.W.Frag} {H : Hp} {α : Nat → Addr} {m : Nat} : ∀ {kvs : List (Key × D)} {vs : List (Key × V)}, RKV K H α m kvs vs → RDs K H α m (kvs.map fun kv => kD kv.1) (vs.map fun kv => kV kv.1)
  | [], vs, h => by unfold RKV at h; subst h; exact .nil
  | (j, d) :: kvs, vs, h => by
    unfold RKV at h
    obtain ⟨v, r, rfl, h1, h2⟩ := h
    exact .cons rKey (rKeys h2)
def listD : D → Sto → Option (D × Sto)
  | .tup xs, st => some (.ref st.size, st.push (.lst xs))
  | .ref n, st => match st.get n with
    | some (.lst xs) => some (.ref st.size, st.push (.lst xs))
    | some (.frl xs) => some (.ref st.size, st.push (.lst xs))
    | some (.dic kvs) => some (.ref st.size, st.push (.lst (kvs.map fun kv => kD kv.1)))
    | _ => none
  | _, _ => none
abbrev rListA (K : PySem.W.Frag) : List V → Hp → VK → Prop := fun xs H Q => (∃ p ys, xs = [.ref p] ∧ (SqL K H p ys ∨ SqT K H p ys) ∧ ∀ l, H l = none → Q (.ref l) (upd H l (.lst ys))) ∨ rListD xs H Q
theorem listD_ok {K : PySem.W.Frag} : Call1 K listD (rListA K) := by
  intro H α st a d st' v Q rel h ra k
  unfold listD at h
  split at h
  · cases h
    obtain ⟨p, vs, rfl, h1, h2⟩ := rdTup ra
    exact .inl ⟨p, vs, rfl, .inr h1, fun l hl => k _ _ _ (newL rel h2 hl) rdNew⟩
  · split at h
    · rename_i e; cases h; obtain ⟨vs, h1, h2⟩ := rel.lst e
      exact .inl ⟨_, vs, by rw [(rdRef ra).2], .inl (.of h1), fun l hl => k _ _ _ (newL rel h2 hl) rdNew⟩
    · rename_i e; cases h; obtain ⟨vs, h1, h2⟩ := rel.frl e
      exact .inl ⟨_, vs, by rw [(rdRef ra).2], .inl h1.sq, fun l hl => k _ _ _ (newL rel h2 hl) rdNew⟩
    · rename_i e; cases h; obtain ⟨vs, h1, h2⟩ := rel.dic e
      exact .inr ⟨_, vs, by rw [(rdRef ra).2], h1, fun l hl => k _ _ _ (newL rel (rKeys h2) hl) rdNew⟩
    · cases h
  · cases h
theorem de_list {p : Pos} (hc : X.calm = true) (hg : Gl X "list") (hm : X.mg "list" = none) (ha : PE X e (tD X.K f)) (he : starEach [e] X.env = (false, eval e X.env) :: starEach [] X.env := by rfl) (hpl : (backTo pos (starEach [] X.env)).any (·.1) = false := by rfl) :
    PE X (.Call (.Name "list" p) [e] [] pos) (tD X.K (unF listD f)) := de_callT (call_list_of.or (call_list_dK hc)) listD_ok hg hm (by decide +kernel) ha (by decide) (by decide) he hpl
def tupleD : D → Sto → Option (D × Sto)
  | .tup xs, st => some (.tup xs, st)
  | .ref n, st => match st.seq n with
    | some xs => some (.tup xs, st)
    | none => none
  | _, _ => none
theorem tupleD_ok {K : PySem.W.Frag} : Call1 K tupleD (fun xs H Q => ∃ p ys, xs = [.ref p] ∧ ((SqL K H p ys ∧ ∀ l, H l = none → Q (.ref l) (upd H l (.tup ys))) ∨ (SqT K H p ys ∧ Q (.ref p) H))) := by
  intro H α st a d st' v Q rel h ra k
  cases a with
  | tup xs =>
    cases h
    obtain ⟨p, vs, rfl, h1, h2⟩ := rdTup ra
    exact ⟨p, vs, rfl, .inr ⟨h1, k H α _ (.refl rel) (rTup h1 h2)⟩⟩
  | ref n =>
    unfold tupleD at h
    simp only at h
    split at h
    · rename_i xs e
      cases h
      obtain ⟨vs, h1, h2⟩ := rel.seq e
      refine ⟨_, vs, by rw [(rdRef ra).2], .inl ⟨h1, fun l hl => ?_⟩⟩
      have S := rel.tup (vs := vs) hl
      exact k _ _ _ S (rTup (.of upd_same) (h2.step S))
    · cases h
  | _ => cases h
theorem de_tuple {p : Pos} (hg : Gl X "tuple") (hm : X.mg "tuple" = none) (ha : PE X e (tD X.K f)) (he : starEach [e] X.env = (false, eval e X.env) :: starEach [] X.env := by rfl) (hpl : (backTo pos (starEach [] X.env)).any (·.1) = false := by rfl) :
    PE X (.Call (.Name "tuple" p) [e] [] pos) (tD X.K (unF tupleD f)) := de_callT call_tuple_of tupleD_ok hg hm (by decide +kernel) ha (by decide) (by decide) he hpl
/-- a new dict of the store -/
theorem newD {K : PySem.W.Frag} {H1 : Hp} {α1 : Nat → Addr} {s1 : Sto} {vs : List (Key × V)} {as : List (Key × D)} {p : Addr} (rel : Rel K H1 α1 s1) (rvs : RKV K H1 α1 s1.size as vs) (hp : H1 p = none) :
    Step K H1 α1 s1.size (upd H1 p (.dK vs)) (addr α1 s1.size p) (s1.push (.dic as)) :=
  rel.new hp rfl ⟨vs, upd_same, RKV.mono (ext_upd (.none hp)) (fun i hi => addr_lt hi) (Nat.le_succ _) _ _ rvs⟩
def dictD : D → Sto → Option (D × Sto)
  | .ref n, st => match st.map n with
    | some kvs => some (.ref st.size, st.push (.dic kvs))
    | none => none
  | _, _ => none
def rDictC : List V → Hp → VK → Prop := fun xs H Q => ∃ a kvs, xs = [.ref a] ∧ Rd H a (.dK kvs) ∧ ∀ p, H p = none → Q (.ref p) (upd H p (.dK kvs))
theorem call_dictC : CallR X (.type "dict") rDictC := by
  intro pins s σ H xs us Q I r h
  obtain ⟨p, kvs, rfl, hr, q⟩ := h
  obtain ⟨u, rfl, rx⟩ := vals1 r
  cases rx
  exact d_copyOf I hr fun p s' hp I' => ⟨.ref p, _, I', rfl, q p hp⟩
theorem dictD_ok {K : PySem.W.Frag} : Call1 K dictD rDictC := by
  intro H α st a d st' v Q rel h ra k
  cases a with
  | ref n =>
    unfold dictD at h
    simp only at h
    split at h
    · rename_i kvs e
      cases h
      obtain ⟨vs, h1, h2⟩ := rel.map e
      exact ⟨_, vs, by rw [(rdRef ra).2], h1, fun p hp => k _ _ _ (newD rel h2 hp) rdNew⟩
    · cases h
  | _ => cases h
theorem de_dict {p : Pos} (hg : Gl X "dict") (hm : X.mg "dict" = none) (ha : PE X e (tD X.K f)) (he : starEach [e] X.env = (false, eval e X.env) :: starEach [] X.env := by rfl) (hpl : (backTo pos (starEach [] X.env)).any (·.1) = false := by rfl) :
    PE X (.Call (.Name "dict" p) [e] [] pos) (tD X.K (unF dictD f)) := de_callT call_dictC dictD_ok hg hm (by decide +kernel) ha (by decide) (by decide) he hpl
end
end Dn
/-! More built-in functions, methods, displays of dicts. -/
namespace Dn
open PySem PySem.Spec PyProof.Rows L2
section
variable {X : Cx} {a b e o : Expr} {f g h' : M D} {pos apos cpos : Pos}
/-! ### two things -/
def Call2 (K : PySem.W.Frag) (op : D → D → Sto → Option (D × Sto)) (r : List V → Hp → VK → Prop) : Prop := OpD K op fun v w H Q => r [v, w] H Q
theorem call2_ok {K : PySem.W.Frag} {op : D → D → Sto → Option (D × Sto)} {r : List V → Hp → VK → Prop} (cd : Call2 K op r) : ∀ σ H Q, tD K (opF op f g) σ H Q → tCB r (tDA K (consF f (consF g nilF))) σ H Q := by
  rintro σ H Q ⟨α, st, env, d, st', rel, re, h, k⟩
  obtain ⟨⟨x, s1⟩, hx, h⟩ := bindS h
  obtain ⟨⟨y, s2⟩, hy, h⟩ := bindS h
  refine ⟨α, st, env, [x, y], s2, rel, re, by unfold consF nilF; simp only [hx, hy, Option.bind_some], fun H1 α1 vs S1 rvs => ?_⟩
  unfold RDs at rvs
  obtain ⟨v, vr, rfl, r1, r2⟩ := rvs
  unfold RDs at r2
  obtain ⟨w, vr2, rfl, r2, r3⟩ := r2
  unfold RDs at r3
  subst r3
  exact cd H1 α1 s2 x y d st' v w Q S1.rel h r1 r2 fun H' α' u S3 ru => k H' α' u (S1.trans S3) ru
theorem de_callB2 {x : Str} {p : Pos} {id : String} {r : List V → Hp → VK → Prop} {op : D → D → Sto → Option (D × Sto)} (hc : CallR X (.builtin id) r) (cd : Call2 X.K op r) (hg : Gl X x) (hm : X.mg x = none) (hv : bootBuiltins x = some (.builtin id)) (ha : PE X a (tD X.K f)) (hb : PE X b (tD X.K g))
    (hn : x ≠ "__name__" := by decide) (hdb : (x == ("__debug__" : Str)) = false := by decide)
    (he : starEach [a, b] X.env = (false, eval a X.env) :: starEach [b] X.env := by rfl) (he2 : starEach [b] X.env = (false, eval b X.env) :: starEach [] X.env := by rfl) (hpl : (backTo pos (starEach [b] X.env)).any (·.1) = false := by rfl) : PE X (.Call (.Name x p) [a, b] [] pos) (tD X.K (opF op f g)) :=
  weE (pe_callB hc hg hm hv (da_cons ha (da_cons hb da_nil he2) he) hn hdb he hpl) (call2_ok cd)
def minD : D → D → Sto → Option (D × Sto)
  | .int i, .int j, st => some (.int (if j < i then j else i), st)
  | _, _, _ => none
theorem minD_ok {K : PySem.W.Frag} : Call2 K minD (fun xs H Q => ∃ i j, xs = [.int i, .int j] ∧ Q (.int (if j < i then j else i)) H) := by
  intro H α st a b d st' v w Q rel h ra rb k
  unfold minD at h
  split at h
  · cases h
    exact ⟨_, _, by rw [rdInt ra, rdInt rb], k H α _ (.refl rel) rInt⟩
  · cases h
theorem de_min {p : Pos} (hc : X.calm = true) (hg : Gl X "min") (hm : X.mg "min" = none) (ha : PE X a (tD X.K f)) (hb : PE X b (tD X.K g)) (he : starEach [a, b] X.env = (false, eval a X.env) :: starEach [b] X.env := by rfl) (he2 : starEach [b] X.env = (false, eval b X.env) :: starEach [] X.env := by rfl)
    (hpl : (backTo pos (starEach [b] X.env)).any (·.1) = false := by rfl) : PE X (.Call (.Name "min" p) [a, b] [] pos) (tD X.K (opF minD f g)) := de_callB2 (call_min2 hc) minD_ok hg hm (by decide +kernel) ha hb (by decide) (by decide) he he2 hpl
/-! ### isinstance(x, T) -/
def tyD (st : Sto) : D → Option String
  | .non => some "NoneType"
  | .bl _ => some "bool"
  | .int _ => some "int"
  | .str _ => some "str"
  | .tup _ => some "tuple"
  | .ref n => match st.get n with
    | some (.lst _) => some "list"
    | some (.dic _) => some "dict"
    | some (.frd _) => some "dict"
    | _ => none
def isiF (T : String) (f : M D) : M D := fun env st => (f env st).bind fun p => (tyD p.2 p.1).bind fun t => (kitB t T).map fun b => (.bl b, p.2)
theorem ty_rel {K : PySem.W.Frag} {H : Hp} {α : Nat → Addr} {st : Sto} {d : D} {v : V} {t : String} (rel : Rel K H α st) (r : RD K H α st.size d v) (h : tyD st d = some t) : TyX K H v (.type t) := by
  unfold tyD at h
  split at h
  · cases h; rw [rdNon r]; exact .base .non
  · cases h; rw [rdBl r]; exact .base (.bl _)
  · cases h; rw [rdInt r]; exact .base (.int _)
  · cases h; rw [rdStr r]; exact .base (.str _)
  · cases h
    obtain ⟨p, vs, rfl, h1, _⟩ := rdTup r
    rcases h1 with (h1 | ⟨ob, h1⟩) | ⟨ob, its, n, h1, h2, _⟩
    · exact .base (.tup h1)
    · exact .fTuple h1
    · exact .kTuple h1 h2
  · split at h
    · rename_i e; cases h; obtain ⟨vs, h1, _⟩ := rel.lst e; rw [(rdRef r).2]; exact .base (.lst h1)
    · rename_i e; cases h; obtain ⟨vs, h1, _⟩ := rel.dic e; rw [(rdRef r).2]; exact .base (.dK h1)
    · rename_i e; cases h; obtain ⟨ob, vs, h1, _⟩ := rel.frd e; rw [(rdRef r).2]; exact .fDict h1
    · cases h
theorem de_isi {T : String} {x : Str} {p p2 : Pos} (hg : Gl X "isinstance") (hm : X.mg "isinstance" = none) (hg2 : Gl X x) (hm2 : X.mg x = none) (hv2 : bootBuiltins x = some (.type T)) (ha : PE X a (tD X.K f)) (hn2 : x ≠ "__name__" := by decide) (hd2 : (x == ("__debug__" : Str)) = false := by decide)
    (he : starEach [a, .Name x p2] X.env = (false, eval a X.env) :: starEach [.Name x p2] X.env := by rfl) (he2 : starEach [.Name x p2] X.env = (false, eval (.Name x p2) X.env) :: starEach [] X.env := by rfl) (hpl : (backTo pos (starEach [.Name x p2] X.env)).any (·.1) = false := by rfl) :
    PE X (.Call (.Name "isinstance" p) [a, .Name x p2] [] pos) (tD X.K (isiF T f)) :=
  weE (pe_callB call_isi hg hm (by decide +kernel) (pa_cons ha (pa_cons (pe_bltn hg2 hm2 hv2 (show RelV (.ty T) (.type T) from rfl) hn2 hd2) pa_nil he2) he) (by decide) (by decide) he hpl) (by
  rintro σ H Q ⟨α, st, env, d, st', rel, re, h, k⟩
  obtain ⟨⟨y, s1⟩, hy, h⟩ := bindS h
  obtain ⟨t, ht, h⟩ := bindS h
  obtain ⟨c, hc, h⟩ := mapS h
  cases h
  refine ⟨α, st, env, y, s1, rel, re, hy, fun H1 α1 v S1 rv => ?_⟩
  exact ⟨v, .ty T, .type t, .type T, c, rfl, .ty T, ty_rel S1.rel rv ht, kit_ty hc, k H1 α1 _ S1 rBl⟩)
/-! ### all -/
def blsD : List D → Option (List Bool)
  | [] => some []
  | .bl b :: r => (blsD r).map fun bs => b :: bs
  | _ => none
theorem bls_rel {K : PySem.W.Frag} {H : Hp} {α : Nat → Addr} {m : Nat} : ∀ {xs : List D} {vs : List V} {bs : List Bool}, RDs K H α m xs vs → blsD xs = some bs → vs = bs.map V.bl
  | [], _, _, r, h => by unfold RDs at r; subst r; cases h; rfl
  | .bl b :: xs, _, _, r, h => by
    unfold RDs at r
    obtain ⟨v, vr, rfl, r1, r2⟩ := r
    obtain ⟨bs', h1, rfl⟩ := mapS h
    rw [rdBl r1, bls_rel r2 h1]
    rfl
  | .non :: _, _, _, _, h => by cases h
  | .int _ :: _, _, _, _, h => by cases h
  | .str _ :: _, _, _, _, h => by cases h
  | .tup _ :: _, _, _, _, h => by cases h
  | .ref _ :: _, _, _, _, h => by cases h
def allD (q : List Bool → Bool) : D → Sto → Option (D × Sto)
  | .ref n, st => match st.seq n with
    | some xs => (blsD xs).map fun bs => (.bl (q bs), st)
    | none => none
  | _, _ => none
theorem allD_ok {K : PySem.W.Frag} {q : List Bool → Bool} : Call1 K (allD q) (fun vs H Q => ∃ (a : Addr) (bs : List Bool), vs = [V.ref a] ∧ SqL K H a (bs.map V.bl) ∧ Q (.bl (q bs)) H) := by
  intro H α st a d st' v Q rel h ra k
  cases a with
  | ref n =>
    unfold allD at h
    simp only at h
    split at h
    · rename_i xs e
      obtain ⟨bs, hb, h⟩ := mapS h
      cases h
      obtain ⟨vs, h1, h2⟩ := rel.seq e
      exact ⟨_, bs, by rw [(rdRef ra).2], by rw [← bls_rel h2 hb]; exact h1, k H α _ (.refl rel) rBl⟩
    · cases h
  | _ => cases h
theorem de_all {p : Pos} (hc : X.calm = true) (hg : Gl X "all") (hm : X.mg "all" = none) (ha : PE X e (tD X.K f)) (he : starEach [e] X.env = (false, eval e X.env) :: starEach [] X.env := by rfl) (hpl : (backTo pos (starEach [] X.env)).any (·.1) = false := by rfl) :
    PE X (.Call (.Name "all" p) [e] [] pos) (tD X.K (unF (allD fun bs => bs.all id) f)) := de_callB (cr_all hc) allD_ok hg hm (by decide +kernel) ha (by decide) (by decide) he hpl
theorem de_any {p : Pos} (hc : X.calm = true) (hg : Gl X "any") (hm : X.mg "any" = none) (ha : PE X e (tD X.K f)) (he : starEach [e] X.env = (false, eval e X.env) :: starEach [] X.env := by rfl) (hpl : (backTo pos (starEach [] X.env)).any (·.1) = false := by rfl) :
    PE X (.Call (.Name "any" p) [e] [] pos) (tD X.K (unF (allD fun bs => bs.any id) f)) := de_callB (cr_any hc) allD_ok hg hm (by decide +kernel) ha (by decide) (by decide) he hpl
/-! ### ranges -/
def tDR (K : PySem.W.Frag) (f : Env → Sto → Option ((Int × Int) × Sto)) : L2.St → Hp → (Int → Int → Hp → Prop) → Prop := fun σ H Q => ∃ α st env r st', Rel K H α st ∧ RE K H α st.size σ env ∧ f env st = some (r, st') ∧ ∀ H' α', Step K H α st.size H' α' st' → Q r.1 r.2 H'
def rg1F (f : M D) : Env → Sto → Option ((Int × Int) × Sto) := fun env st => (f env st).bind fun p => match p.1 with
  | .int n => some ((0, n), p.2)
  | _ => none
def rg2F (f g : M D) : Env → Sto → Option ((Int × Int) × Sto) := fun env st => (f env st).bind fun p => (g env p.2).bind fun q => match p.1, q.1 with
  | .int i, .int j => some ((i, j), q.2)
  | _, _ => none
theorem rg1_ok {K : PySem.W.Frag} : ∀ σ H Q, tDR K (rg1F f) σ H Q → tRg1 (tD K f) σ H Q := by
  rintro σ H Q ⟨α, st, env, r, st', rel, re, h, k⟩
  obtain ⟨⟨y, s1⟩, hy, h⟩ := bindS h
  cases y with
  | int n =>
    cases h
    exact ⟨α, st, env, _, s1, rel, re, hy, fun H1 α1 v S1 rv => ⟨n, rdInt rv, k H1 α1 S1⟩⟩
  | _ => cases h
theorem rg2_ok {K : PySem.W.Frag} : ∀ σ H Q, tDR K (rg2F f g) σ H Q → tRg2 (tD K f) (tD K g) σ H Q := by
  rintro σ H Q ⟨α, st, env, r, st', rel, re, h, k⟩
  obtain ⟨⟨y, s1⟩, hy, h⟩ := bindS h
  obtain ⟨⟨z, s2⟩, hz, h⟩ := bindS h
  cases y with
  | int n =>
    cases z with
    | int m =>
      cases h
      exact ⟨α, st, env, _, s1, rel, re, hy, fun H1 α1 v S1 rv => ⟨α1, s1, env, _, s2, S1.rel, re.step S1, hz, fun H2 α2 w S2 rw => ⟨n, m, rdInt rv, rdInt rw, k H2 α2 (S1.trans S2)⟩⟩⟩
    | _ => cases h
  | _ => cases h
theorem dr_1 {p : Pos} (hg : Gl X "range") (hm : X.mg "range" = none) (ha : PE X a (tD X.K f)) (na : starEach [a] X.env = (false, eval a X.env) :: starEach [] X.env := by rfl) : PRg X (.Call (.Name "range" p) [a] [] pos) (tDR X.K (rg1F f)) :=
  fun pins s σ H Q I q => prg_1 hg hm ha na pins s σ H Q I (rg1_ok σ H Q q)
theorem dr_2 {p : Pos} (hg : Gl X "range") (hm : X.mg "range" = none) (ha : PE X a (tD X.K f)) (hb : PE X b (tD X.K g)) (na : starEach [a, b] X.env = (false, eval a X.env) :: starEach [b] X.env := by rfl)
    (nb : starEach [b] X.env = (false, eval b X.env) :: starEach [] X.env := by rfl) (hp : (backTo pos (starEach [b] X.env)).any (·.1) = false := by rfl) : PRg X (.Call (.Name "range" p) [a, b] [] pos) (tDR X.K (rg2F f g)) :=
  fun pins s σ H Q I q => prg_2 hg hm ha hb na nb hp pins s σ H Q I (rg2_ok σ H Q q)
instance {a b : Int} : Decidable (RgOk a b) := by unfold RgOk; exact inferInstance
def rgL (a b : Int) : List D := (List.range (b - a).toNat).map fun i => D.int (a + (i : Nat))
theorem rgL_rel {K : PySem.W.Frag} {H : Hp} {α : Nat → Addr} {m : Nat} (a b : Int) : RDs K H α m (rgL a b) (rgV a b) := by
  unfold rgL rgV
  have : ∀ l : List Nat, RDs K H α m (l.map fun i => D.int (a + (i : Nat))) (l.map fun i => V.int (a + (i : Nat))) := by
    intro l
    induction l with
    | nil => exact .nil
    | cons x r ih => exact .cons rInt ih
  exact this _
def lstRgF (f : Env → Sto → Option ((Int × Int) × Sto)) : M D := fun env st => (f env st).bind fun p => if RgOk p.1.1 p.1.2 then some (.ref p.2.size, p.2.push (.lst (rgL p.1.1 p.1.2))) else none
theorem de_listRg {p : Pos} {fr : Env → Sto → Option ((Int × Int) × Sto)} (hc : X.calm = true) (hg : Gl X "list") (hm : X.mg "list" = none) (he : PRg X e (tDR X.K fr)) (na : starEach [e] X.env = (false, eval e X.env) :: starEach [] X.env := by rfl) : PE X (.Call (.Name "list" p) [e] [] pos) (tD X.K (lstRgF fr)) :=
  weE (pe_listRg hc hg hm he na) (by
  rintro σ H Q ⟨α, st, env, d, st', rel, re, h, k⟩
  obtain ⟨⟨y, s1⟩, hy, h⟩ := bindS h
  split at h
  · rename_i hr
    cases h
    exact ⟨α, st, env, y, s1, rel, re, hy, fun H1 α1 S1 => ⟨hr, fun q hq => k _ _ _ (S1.trans (newL S1.rel (rgL_rel _ _) hq)) rdNew⟩⟩
  · cases h)
/-! ### sorted -/
def intsD : List D → Option (List Int)
  | [] => some []
  | .int b :: r => (intsD r).map fun bs => b :: bs
  | _ => none
theorem ints_rel {K : PySem.W.Frag} {H : Hp} {α : Nat → Addr} {m : Nat} : ∀ {xs : List D} {vs : List V} {bs : List Int}, RDs K H α m xs vs → intsD xs = some bs → vs = bs.map V.int
  | [], _, _, r, h => by unfold RDs at r; subst r; cases h; rfl
  | .int b :: xs, _, _, r, h => by
    unfold RDs at r
    obtain ⟨v, vr, rfl, r1, r2⟩ := r
    obtain ⟨bs', h1, rfl⟩ := mapS h
    rw [rdInt r1, ints_rel r2 h1]
    rfl
  | .non :: _, _, _, _, h => by cases h
  | .bl _ :: _, _, _, _, h => by cases h
  | .str _ :: _, _, _, _, h => by cases h
  | .tup _ :: _, _, _, _, h => by cases h
  | .ref _ :: _, _, _, _, h => by cases h
theorem ints_map {K : PySem.W.Frag} {H : Hp} {α : Nat → Addr} {m : Nat} : ∀ ns : List Int, RDs K H α m (ns.map D.int) (ns.map V.int)
  | [] => .nil
  | n :: ns => .cons rInt (ints_map ns)
/-- sorting by placing one after the other -/
def ins1 (n : Int) : List Int → List Int
  | [] => [n]
  | m :: r => if n ≤ m then n :: m :: r else m :: ins1 n r
def srt : List Int → List Int
  | [] => []
  | n :: r => ins1 n (srt r)
theorem ins1_perm (n : Int) : ∀ l : List Int, (ins1 n l).Perm (n :: l)
  | [] => .refl _
  | m :: r => by
    unfold ins1
    split
    · exact .refl _
    · exact ((ins1_perm n r).cons m).trans (.swap _ _ _)
theorem srt_perm : ∀ l : List Int, (srt l).Perm l
  | [] => .refl _
  | n :: r => (ins1_perm n (srt r)).trans ((srt_perm r).cons n)
theorem ins1_sorted (n : Int) : ∀ l : List Int, l.Pairwise (· ≤ ·) → (ins1 n l).Pairwise (· ≤ ·)
  | [], _ => by unfold ins1; exact List.pairwise_singleton _ _
  | m :: r, h => by
    unfold ins1
    split
    · rename_i hm
      refine List.pairwise_cons.mpr ⟨fun x hx => ?_, h⟩
      rcases List.mem_cons.mp hx with rfl | hx
      · exact hm
      · exact Int.le_trans hm ((List.pairwise_cons.mp h).1 x hx)
    · rename_i hm
      refine List.pairwise_cons.mpr ⟨fun x hx => ?_, ins1_sorted n r (List.pairwise_cons.mp h).2⟩
      rcases List.mem_cons.mp ((ins1_perm n r).mem_iff.mp hx) with rfl | hx
      · omega
      · exact (List.pairwise_cons.mp h).1 x hx
theorem srt_sorted : ∀ l : List Int, (srt l).Pairwise (· ≤ ·)
  | [] => .nil
  | n :: r => ins1_sorted n _ (srt_sorted r)
theorem sorted_eq : ∀ {l m : List Int}, l.Perm m → l.Pairwise (· ≤ ·) → m.Pairwise (· ≤ ·) → l = m
  | [], m, p, _, _ => (List.nil_perm.mp p).symm ▸ rfl
  | x :: l, [], p, _, _ => by cases (List.perm_nil.mp p)
  | x :: l, y :: m, p, h1, h2 => by
    have e : x = y := by
      have a : x ∈ y :: m := p.mem_iff.mp (List.mem_cons_self)
      have b : y ∈ x :: l := p.mem_iff.mpr (List.mem_cons_self)
      rcases List.mem_cons.mp a with e | a
      · exact e
      · rcases List.mem_cons.mp b with e | b
        · exact e.symm
        · have i := (List.pairwise_cons.mp h2).1 x a
          have j := (List.pairwise_cons.mp h1).1 y b
          omega
    subst e
    rw [sorted_eq ((List.perm_cons x).mp p) (List.pairwise_cons.mp h1).2 (List.pairwise_cons.mp h2).2]
theorem srt_of {l m : List Int} (p : m.Perm l) (h : m.Pairwise (· ≤ ·)) : m = srt l := sorted_eq (p.trans (srt_perm l).symm) h (srt_sorted l)
def keysI : List (Key × D) → Option (List Int)
  | [] => some []
  | (.inl i, _) :: r => (keysI r).map fun is => i :: is
  | _ => none
theorem keysI_rel {K : PySem.W.Frag} {H : Hp} {α : Nat → Addr} {m : Nat} : ∀ {xs : List (Key × D)} {vs : List (Key × V)} {bs : List Int}, RKV K H α m xs vs → keysI xs = some bs → vs.map (·.1) = bs.map Sum.inl
  | [], _, _, r, h => by unfold RKV at r; subst r; cases h; rfl
  | (.inl b, d) :: xs, _, _, r, h => by
    unfold RKV at r
    obtain ⟨v, vr, rfl, r1, r2⟩ := r
    obtain ⟨bs', h1, rfl⟩ := mapS h
    simp only [List.map_cons]
    rw [keysI_rel r2 h1]
  | (.inr _, _) :: _, _, _, _, h => by cases h
/-- sorted(d), the keys ints, any number -/
def rSortedDI : List V → Hp → VK → Prop := fun xs H Q => ∃ (a : Addr) (kvs : List (Key × V)) (ks : List Int), xs = [.ref a] ∧ Rd H a (.dK kvs) ∧ kvs.map (·.1) = ks.map Sum.inl ∧
    ∀ (ys : List Int) (p : Addr), ys.Perm ks → ys.Pairwise (· ≤ ·) → H p = none → Q (.ref p) (upd H p (.lst (ys.map V.int)))
theorem call_sortedDA (hcalm : X.calm = true) : CallR X (.builtin "sorted") rSortedDI := by
  intro pins s σ H xs us Q I r q
  obtain ⟨a, kvs, ks, ex, hd, hks, q⟩ := q
  subst ex
  obtain ⟨u, eu, rx⟩ := vals1 r
  subst eu
  cases rx
  obtain ⟨z, lo, vs, rel, dd⟩ := dk_rd I.hok hd
  obtain ⟨ep, hat⟩ := dd.dictAt
  have hkeys : vs.map (·.1) = ks.map Sum.inl := rel.keys.symm.trans hks
  have hl : vs.length = ks.length := by
    have e := congrArg List.length hkeys
    rw [List.length_map, List.length_map] at e
    exact e
  have h16 : vs.length ≤ sizeLine := by rw [← rel.length]; exact z
  refine Calls.call_function_entry PyProof.Rows.kind_sorted PyProof.Rows.plain_sorted PyProof.Rows.entry_sorted (PyProof.Rows.args_sorted1 _) ?_
  unfold Builtin.«sorted»
  refine wpAny_bind (m := checkCount "sorted" 1 1 _) (wpAny_pure ?_)
  refine wpAny_bind (PySem.W.kdu_collect (A := X.A.in1) (PySem.W.kdl_dict (knd := mixKind X.prog X.w) (kvs := vs) (ep := ep) lo) (I.ok.hd hcalm) hat h16 fun h' tk acc hk hacc => ?_)
  have hal : acc.toList.length = ks.length := by rw [Array.length_toList, hacc.1, hl]
  have hS : IntsAre acc.toList ks := ints_each hal fun j v e => by
    obtain ⟨k, x, e1, e2⟩ := hacc.2 j v (by rw [← Array.getElem?_toList]; exact e)
    have e3 : (vs.map (·.1))[j]? = some k := by rw [List.getElem?_map, e1]; rfl
    rw [hkeys, List.getElem?_map] at e3
    cases e4 : ks[j]? with
    | none => rw [e4] at e3; cases e3
    | some y =>
      rw [e4] at e3
      have e5 : Sum.inl y = k := Option.some.inj e3
      subst e5
      rcases keyIs_shape (show keyIs (Sum.inl y) v = true from e2) with ⟨i, t, ek, ev⟩ | ⟨z, t, ek, ev⟩
      · cases ek
        exact ⟨y, t, rfl, ev⟩
      · cases ek
  have I1 : Inv X pins σ H { s with heap := h', toks := tk } := I.kept hk
  have hz : acc.toList.length ≤ sizeLine := by rw [hal, ← hl]; exact h16
  refine wpAny_bind (wpAny_newList ?_ hz)
  have hoL : (h'.push (seqObj "list" acc.toList.toArray 0)).get? h'.objs.size = some (seqObj "list" acc.toList.toArray 0) := Heap.get?_push_size _ rfl
  show wpAny _ _ _ _ _ { s with heap := h'.push (seqObj "list" acc.toList.toArray 0), toks := tk }
  refine wpAny_bind (wpAny_holding (wpAny_call_entry PyProof.Rows.slot_list_sort ⟨_, hoL, rfl⟩ PyProof.Rows.entry_list_sort
    (SrtO.list_sort_ord (s := { s with heap := h'.push (seqObj "list" acc.toList.toArray 0), toks := tk }) SrtO.swo_int hoL hz (fun h2 => SrtO.ints_sortable hS h2) fun out h1 h2 => ⟨_, rfl, ?_⟩) (PyProof.Rows.args_list_sort _)))
  obtain ⟨k1, k2, k3⟩ := SrtO.ints_out hS h1 h2
  obtain ⟨e', he'⟩ := PyProof.Rows.sortedHeap_at (vs := acc.toList) (out := out.toArray) hoL
  have hlen : ((out.map SrtO.iv).map V.int).length ≤ sizeLine := by
    rw [List.length_map, k2.length_eq, ← hl]
    exact h16
  refine wpAny_pure ⟨_, rfl, .ref h'.objs.size, upd H h'.objs.size (.lst ((out.map SrtO.iv).map V.int)), I1.laid (t' := tk) (fun b u e => ?_) (Nat.le_refl _)
    (show ObjOk X.prog X.w _ _ _ (.lst ((out.map SrtO.iv).map V.int)) from ⟨hlen, out, e', vals_of_ints k1, he'⟩), rfl, q (out.map SrtO.iv) _ k2 k3 (I1.hok.fresh (Nat.le_refl _))⟩
  have hb : b < h'.objs.size := Heap.lt_size e
  rw [PyProof.Rows.sortedHeap_old (Nat.ne_of_lt hb) (by rw [size_push']; exact Nat.lt_succ_of_lt hb)]
  exact Heap.get?_push_of_some _ e
def sortedD : D → Sto → Option (D × Sto)
  | .ref n, st => match st.get n with
    | some (.lst xs) => (intsD xs).map fun ns => (.ref st.size, st.push (.lst ((srt ns).map D.int)))
    | some (.frl xs) => (intsD xs).map fun ns => (.ref st.size, st.push (.lst ((srt ns).map D.int)))
    | some (.dic kvs) => (keysI kvs).map fun ns => (.ref st.size, st.push (.lst ((srt ns).map D.int)))
    | some (.frd kvs) => (keysI kvs).map fun ns => (.ref st.size, st.push (.lst ((srt ns).map D.int)))
    | _ => none
  | _, _ => none
theorem sortedD_ok {K : PySem.W.Frag} : Call1 K sortedD (fun xs H Q => rSortedI K xs H Q ∨ rSortedDI xs H Q) := by
  intro H α st a d st' v Q rel h ra k
  have lst : ∀ {n : Nat} {xs : List D}, a = .ref n → st.seq n = some xs → ((intsD xs).map fun ns => (D.ref st.size, st.push (.lst ((srt ns).map D.int)))) = some (d, st') → rSortedI K [v] H Q := by
    intro n xs ea e q
    rw [ea] at ra
    obtain ⟨ns, hn, q⟩ := mapS q
    cases q
    obtain ⟨vs, h1, h2⟩ := rel.seq e
    refine ⟨_, ns, by rw [(rdRef ra).2], by rw [← ints_rel h2 hn]; exact h1, fun ns' p e1 e2 hp => ?_⟩
    rw [srt_of e1 e2]
    exact k _ _ _ (newL rel (ints_map _) hp) rdNew
  have dct : ∀ {n : Nat} {kvs : List (Key × D)}, a = .ref n → st.map n = some kvs → ((keysI kvs).map fun ns => (D.ref st.size, st.push (.lst ((srt ns).map D.int)))) = some (d, st') → rSortedDI [v] H Q := by
    intro n xs ea e q
    rw [ea] at ra
    obtain ⟨ns, hn, q⟩ := mapS q
    cases q
    obtain ⟨vs, h1, h2⟩ := rel.map e
    refine ⟨_, vs, ns, by rw [(rdRef ra).2], h1, keysI_rel h2 hn, fun ns' p e1 e2 hp => ?_⟩
    rw [srt_of e1 e2]
    exact k _ _ _ (newL rel (ints_map _) hp) rdNew
  unfold sortedD at h
  split at h
  · split at h
    · rename_i e; exact .inl (lst rfl (by unfold Sto.seq; rw [e]; rfl) h)
    · rename_i e; exact .inl (lst rfl (by unfold Sto.seq; rw [e]; rfl) h)
    · rename_i e; exact .inr (dct rfl (by unfold Sto.map; rw [e]; rfl) h)
    · rename_i e; exact .inr (dct rfl (by unfold Sto.map; rw [e]; rfl) h)
    · cases h
  · cases h
theorem de_sorted {p : Pos} (hc : X.calm = true) (hg : Gl X "sorted") (hm : X.mg "sorted" = none) (ha : PE X e (tD X.K f)) (he : starEach [e] X.env = (false, eval e X.env) :: starEach [] X.env := by rfl) (hpl : (backTo pos (starEach [] X.env)).any (·.1) = false := by rfl) :
    PE X (.Call (.Name "sorted" p) [e] [] pos) (tD X.K (unF sortedD f)) := de_callB (cr_sortedI.or (call_sortedDA hc)) sortedD_ok hg hm (by decide +kernel) ha (by decide) (by decide) he hpl
end
end Dn
/-! Methods, displays of dicts, calls of defs. -/
namespace Dn
open PySem PySem.Spec PyProof.Rows L2
section
variable {X : Cx} {a b e o : Expr} {es : List Expr} {f g h' : M D} {fs : M (List D)} {pos apos cpos : Pos}
/-! ### o.m(..) of a built-in type -/
def methF (ok : Sto → D → Bool) (op : D → List D → Sto → Option (D × Sto)) (f : M D) (fs : M (List D)) : M D := fun env st => (f env st).bind fun p => if ok p.2 p.1 = true then (fs env p.2).bind fun q => op p.1 q.1 q.2 else none
structure MethD (K : PySem.W.Frag) (T : String) (ok : Sto → D → Bool) (op : D → List D → Sto → Option (D × Sto)) (r : V → List V → Hp → VK → Prop) : Prop where
  ty : ∀ (H : Hp) (α : Nat → Addr) (st : Sto) (d : D) (v : V), Rel K H α st → RD K H α st.size d v → ok st d = true → tyV K T v H
  op : ∀ (H : Hp) (α : Nat → Addr) (st : Sto) (a : D) (bs : List D) (d : D) (st' : Sto) (v : V) (ws : List V) (Q : VK), Rel K H α st → op a bs st = some (d, st') →
    RD K H α st.size a v → RDs K H α st.size bs ws → (∀ H' α' u, Step K H α st.size H' α' st' → RD K H' α' st'.size d u → Q u H') → r v ws H Q
theorem meth_ok {K : PySem.W.Frag} {T : String} {ok : Sto → D → Bool} {op : D → List D → Sto → Option (D × Sto)} {r : V → List V → Hp → VK → Prop} (md : MethD K T ok op r) : ∀ σ H Q, tD K (methF ok op f fs) σ H Q → tBM K T r (tD K f) (tDA K fs) σ H Q := by
  rintro σ H Q ⟨α, st, env, d, st', rel, re, h, k⟩
  obtain ⟨⟨x, s1⟩, hx, h⟩ := bindS h
  split at h
  · rename_i hok
    obtain ⟨⟨ys, s2⟩, hy, h⟩ := bindS h
    refine ⟨α, st, env, x, s1, rel, re, hx, fun H1 α1 v S1 rv => ⟨md.ty H1 α1 s1 x v S1.rel rv hok, α1, s1, env, ys, s2, S1.rel, re.step S1, hy, fun H2 α2 ws S2 rws => ?_⟩⟩
    exact md.op H2 α2 s2 x ys d st' v ws Q S2.rel h (rv.step S2) rws fun H' α' u S3 ru => k H' α' u (S1.trans (S2.trans S3)) ru
  · cases h
theorem meth_ok0 {K : PySem.W.Frag} {T : String} {ok : Sto → D → Bool} {op : D → List D → Sto → Option (D × Sto)} {r : V → List V → Hp → VK → Prop} (md : MethD K T ok op r) : ∀ σ H Q, tD K (methF ok op f nilF) σ H Q → tBM0 K T r (tD K f) σ H Q := by
  rintro σ H Q ⟨α, st, env, d, st', rel, re, h, k⟩
  obtain ⟨⟨x, s1⟩, hx, h⟩ := bindS h
  split at h
  · rename_i hok
    obtain ⟨⟨ys, s2⟩, hy, h⟩ := bindS h
    cases hy
    refine ⟨α, st, env, x, s1, rel, re, hx, fun H1 α1 v S1 rv => ⟨md.ty H1 α1 s1 x v S1.rel rv hok, ?_⟩⟩
    exact md.op H1 α1 s1 x [] d st' v [] Q S1.rel h rv .nil fun H' α' u S3 ru => k H' α' u (S1.trans S3) ru
  · cases h
def isL (st : Sto) : D → Bool
  | .ref n => (st.seq n).isSome
  | _ => false
def isDk (st : Sto) : D → Bool
  | .ref n => match st.get n with
    | some (.dic _) => true
    | _ => false
  | _ => false
theorem isL_ty {K : PySem.W.Frag} (H : Hp) (α : Nat → Addr) (st : Sto) (d : D) (v : V) (rel : Rel K H α st) (r : RD K H α st.size d v) (h : isL st d = true) : tyV K "list" v H := by
  cases d with
  | ref n =>
    unfold isL at h
    simp only at h
    cases e : st.seq n with
    | none => rw [e] at h; cases h
    | some xs =>
      obtain ⟨vs, h1, _⟩ := rel.seq e
      rw [(rdRef r).2]
      exact .inl ⟨rfl, vs, h1⟩
  | _ => cases h
theorem isDk_ty {K : PySem.W.Frag} (H : Hp) (α : Nat → Addr) (st : Sto) (d : D) (v : V) (rel : Rel K H α st) (r : RD K H α st.size d v) (h : isDk st d = true) : tyV K "dict" v H := by
  cases d with
  | ref n =>
    unfold isDk at h
    simp only at h
    split at h
    · rename_i e
      obtain ⟨vs, h1, _⟩ := rel.dic e
      rw [(rdRef r).2]
      exact .inr (.inr (.inl ⟨rfl, .inl ⟨vs, h1⟩⟩))
    · cases h
  | _ => cases h
/-- a list of the store, changed -/
theorem setL {K : PySem.W.Frag} {H : Hp} {α : Nat → Addr} {st : Sto} {n : Nat} {xs ys : List D} {ws : List V} (rel : Rel K H α st) (e : st.get n = some (.lst xs)) (r : RDs K H α st.size ys ws) :
    Step K H α st.size (upd H (α n) (.lst ws)) α (st.set n (.lst ys)) := by
  obtain ⟨vs, h1, _⟩ := rel.lst e
  have fr : Fr H (α n) := .mut (by rw [h1]; trivial)
  exact rel.write e rfl rfl fr ⟨ws, upd_same, RDs.mono (ext_upd fr) (fun _ _ => rfl) (Nat.le_refl _) _ _ r⟩
theorem setK {K : PySem.W.Frag} {H : Hp} {α : Nat → Addr} {st : Sto} {n : Nat} {xs ys : List (Key × D)} {ws : List (Key × V)} (rel : Rel K H α st) (e : st.get n = some (.dic xs)) (r : RKV K H α st.size ys ws) :
    Step K H α st.size (upd H (α n) (.dK ws)) α (st.set n (.dic ys)) := by
  obtain ⟨vs, h1, _⟩ := rel.dic e
  have fr : Fr H (α n) := .mut (by rw [h1]; trivial)
  exact rel.write e rfl rfl fr ⟨ws, upd_same, RKV.mono (ext_upd fr) (fun _ _ => rfl) (Nat.le_refl _) _ _ r⟩
/-! ### append, extend, pop -/
def appendD : D → List D → Sto → Option (D × Sto)
  | .ref n, [y], st => match st.get n with
    | some (.lst xs) => if xs.length < SZ then some (.non, st.set n (.lst (xs ++ [y]))) else none
    | _ => none
  | _, _, _ => none
theorem append_md {K : PySem.W.Frag} : MethD K "list" isL appendD rAppend where
  ty := isL_ty
  op := by
    intro H α st a bs d st' v ws Q rel h ra rb k
    unfold appendD at h
    split at h
    · split at h
      · rename_i y _ xs e
        split at h
        · rename_i hz
          cases h
          obtain ⟨vs, h1, h2⟩ := rel.lst e
          unfold RDs at rb
          obtain ⟨w, wr, rfl, r1, r2⟩ := rb
          unfold RDs at r2
          subst r2
          exact ⟨_, vs, w, (rdRef ra).2, rfl, h1, by rw [h2.length]; exact hz, k _ _ _ (setL rel e (h2.append (.cons r1 .nil))) rNon⟩
        · cases h
      · cases h
    · cases h
theorem de_append (ho : PE X o (tD X.K f)) (ha : PE X e (tD X.K g))
    (hbase : attributeBase o "append" X.env (eval o X.env) = eval o X.env := by rfl)
    (hfew : ((backTo cpos (starEach [e] X.env)).all (fun x => !x.1) && (backToKw cpos (keywordEach [] X.env)).all (fun x => x.1.isSome)
      && decide (([e] : List Expr).length + ([] : List Keyword).length + (if ([] : List Keyword).isEmpty then 0 else 1) < 30)) = true := by rfl)
    (hline : (apos.endLine == cpos.line) = true := by rfl) (hs : starEach [e] X.env = (false, eval e X.env) :: starEach [] X.env := by rfl) (hplain : (backTo cpos (starEach [] X.env)).any (·.1) = false := by rfl) :
    PE X (.Call (.Attribute o "append" apos) [e] [] cpos) (tD X.K (methF isL appendD f (consF g nilF))) :=
  weE (pe_bm PySem.F.plainAttrs_list PySem.F.slot_list_append PySem.F.type_list_append mt_append ho (da_cons ha da_nil hs) hbase hfew hline hs hplain) (meth_ok append_md)
def extendD : D → List D → Sto → Option (D × Sto)
  | .ref n, [.ref m], st => match st.get n, st.get m with
    | some (.lst xs), some (.lst ys) => if xs.length + ys.length ≤ SZ then some (.non, st.set n (.lst (xs ++ ys))) else none
    | _, _ => none
  | _, _, _ => none
theorem extend_md {K : PySem.W.Frag} : MethD K "list" isL extendD rExtend where
  ty := isL_ty
  op := by
    intro H α st a bs d st' v ws Q rel h ra rb k
    unfold extendD at h
    split at h
    · split at h
      · rename_i y m _ _ xs ys e e2
        split at h
        · rename_i hz
          cases h
          obtain ⟨vs, h1, h2⟩ := rel.lst e
          obtain ⟨us, h3, h4⟩ := rel.lst e2
          unfold RDs at rb
          obtain ⟨w, wr, rfl, r1, r2⟩ := rb
          unfold RDs at r2
          subst r2
          exact ⟨_, _, vs, us, (rdRef ra).2, by rw [(rdRef r1).2], h1, h3, by rw [h2.length, h4.length]; exact hz, k _ _ _ (setL rel e (h2.append h4)) rNon⟩
        · cases h
      · cases h
    · cases h
theorem de_extend (ho : PE X o (tD X.K f)) (ha : PE X e (tD X.K g))
    (hbase : attributeBase o "extend" X.env (eval o X.env) = eval o X.env := by rfl)
    (hfew : ((backTo cpos (starEach [e] X.env)).all (fun x => !x.1) && (backToKw cpos (keywordEach [] X.env)).all (fun x => x.1.isSome)
      && decide (([e] : List Expr).length + ([] : List Keyword).length + (if ([] : List Keyword).isEmpty then 0 else 1) < 30)) = true := by rfl)
    (hline : (apos.endLine == cpos.line) = true := by rfl) (hs : starEach [e] X.env = (false, eval e X.env) :: starEach [] X.env := by rfl) (hplain : (backTo cpos (starEach [] X.env)).any (·.1) = false := by rfl) :
    PE X (.Call (.Attribute o "extend" apos) [e] [] cpos) (tD X.K (methF isL extendD f (consF g nilF))) :=
  weE (pe_bm PySem.F.plainAttrs_list PySem.F.slot_list_extend PySem.F.type_list_extend mt_extend ho (da_cons ha da_nil hs) hbase hfew hline hs hplain) (meth_ok extend_md)
def popD : D → List D → Sto → Option (D × Sto)
  | .ref n, [], st => match st.get n with
    | some (.lst xs) => (xs[xs.length - 1]?).map fun y => (y, st.set n (.lst xs.dropLast))
    | _ => none
  | _, _, _ => none
theorem pop_md {K : PySem.W.Frag} : MethD K "list" isL popD rPop where
  ty := isL_ty
  op := by
    intro H α st a bs d st' v ws Q rel h ra rb k
    unfold popD at h
    split at h
    · split at h
      · rename_i xs e
        obtain ⟨y, hy, h⟩ := mapS h
        cases h
        obtain ⟨vs, h1, h2⟩ := rel.lst e
        unfold RDs at rb
        subst rb
        obtain ⟨u, hu, hr⟩ := h2.get hy
        have S := setL rel e h2.dropLast
        exact ⟨_, vs, u, (rdRef ra).2, rfl, h1, by rw [h2.length]; exact hu, k _ _ _ S (hr.step S)⟩
      · cases h
    · cases h
theorem de_pop (ho : PE X o (tD X.K f)) (hbase : attributeBase o "pop" X.env (eval o X.env) = eval o X.env := by rfl) (hline : (apos.endLine == cpos.line) = true := by rfl) :
    PE X (.Call (.Attribute o "pop" apos) [] [] cpos) (tD X.K (methF isL popD f nilF)) :=
  weE (pe_bm0 PySem.F.plainAttrs_list PySem.F.slot_list_pop PySem.F.type_list_pop mt_pop ho hbase hline) (meth_ok0 pop_md)
/-! ### d.update(d2) -/
def kMerge (kvs more : List (Key × D)) : List (Key × D) := more.foldl (fun acc kv => kPut acc kv.1 kv.2) kvs
theorem RKV.merge {K : PySem.W.Frag} {H : Hp} {α : Nat → Addr} {m : Nat} : ∀ {more : List (Key × D)} {vs : List (Key × V)} {kvs : List (Key × D)} {us : List (Key × V)}, RKV K H α m more vs → RKV K H α m kvs us → RKV K H α m (kMerge kvs more) (mergeK us vs)
  | [], vs, _, _, h, q => by unfold RKV at h; subst h; exact q
  | (j, d) :: more, vs, _, _, h, q => by
    unfold RKV at h
    obtain ⟨v, r, rfl, h1, h2⟩ := h
    have ih := RKV.merge h2 (q.put j h1)
    exact ih
def rUpd : V → List V → Hp → VK → Prop := fun x vs H Q => ∃ a b kvs more, x = .ref a ∧ vs = [.ref b] ∧ a ≠ b ∧ H a = some (.dK kvs) ∧ Rd H b (.dK more) ∧ kvs.length + more.length ≤ sizeLine ∧ Q .non (upd H a (.dK (mergeK kvs more)))
theorem mt_update : MtR X "dict.update" rUpd := by
  intro pins s σ H x xs v us Q I rx rxs h
  obtain ⟨a, b, kvs, more, rfl, rfl, hab, ha, hb, hz, q⟩ := h
  cases rx
  obtain ⟨u, rfl, ru⟩ := Vals.one rxs
  cases ru
  obtain ⟨z, hd, vs, rel, dd⟩ := dk_of I.hok ha
  obtain ⟨z2, hd2, vs2, rel2, dd2⟩ := dk_rd I.hok hb
  refine call_meetsIn PySem.F.slot_dict_update dd.typeIs PySem.F.entry_dict_update (PySem.F.args_dict_update_2 _ _) (meets_dict_update (mixKind X.prog X.w) a b hab hd2)
    ⟨vs, vs2, dd, dd2, by rw [← rel.length, ← rel2.length]; exact hz, fun h' dd' _ hs => ?_⟩
  have he : ∃ q, h'.get? a = some q := let ⟨q, _, _, hq, _⟩ := dd'; ⟨q, hq⟩
  have hl := length_mergeK more kvs
  exact ⟨.non, _, d_write I (by rw [ha]; exact True.intro) hs he (dk_new (by omega) hd (rel2.merge rel) dd'), rfl, q⟩
def updateD : D → List D → Sto → Option (D × Sto)
  | .ref n, [.ref m], st => match st.get n, st.get m with
    | some (.dic xs), some (.dic ys) => if n ≠ m ∧ xs.length + ys.length ≤ SZ then some (.non, st.set n (.dic (kMerge xs ys))) else none
    | _, _ => none
  | _, _, _ => none
theorem update_md {K : PySem.W.Frag} : MethD K "dict" isDk updateD rUpd where
  ty := isDk_ty
  op := by
    intro H α st a bs d st' v ws Q rel h ra rb k
    unfold updateD at h
    split at h
    · split at h
      · rename_i n m _ _ xs ys e e2
        split at h
        · rename_i hz
          cases h
          obtain ⟨vs, h1, h2⟩ := rel.dic e
          obtain ⟨us, h3, h4⟩ := rel.dic e2
          unfold RDs at rb
          obtain ⟨w, wr, rfl, r1, r2⟩ := rb
          unfold RDs at r2
          subst r2
          refine ⟨_, _, vs, us, (rdRef ra).2, by rw [(rdRef r1).2], fun z => hz.1 (rel.inj _ _ _ _ e e2 rfl rfl z), h1, .inl h3, by rw [h2.length, h4.length]; exact hz.2, k _ _ _ (setK rel e (h4.merge h2)) rNon⟩
        · cases h
      · cases h
    · cases h
theorem de_update (ho : PE X o (tD X.K f)) (ha : PE X e (tD X.K g))
    (hbase : attributeBase o "update" X.env (eval o X.env) = eval o X.env := by rfl)
    (hfew : ((backTo cpos (starEach [e] X.env)).all (fun x => !x.1) && (backToKw cpos (keywordEach [] X.env)).all (fun x => x.1.isSome)
      && decide (([e] : List Expr).length + ([] : List Keyword).length + (if ([] : List Keyword).isEmpty then 0 else 1) < 30)) = true := by rfl)
    (hline : (apos.endLine == cpos.line) = true := by rfl) (hs : starEach [e] X.env = (false, eval e X.env) :: starEach [] X.env := by rfl) (hplain : (backTo cpos (starEach [] X.env)).any (·.1) = false := by rfl) :
    PE X (.Call (.Attribute o "update" apos) [e] [] cpos) (tD X.K (methF isDk updateD f (consF g nilF))) :=
  weE (pe_bm PySem.F.plainAttrs_dict PySem.F.slot_dict_update PySem.F.type_dict_update mt_update ho (da_cons ha da_nil hs) hbase hfew hline hs hplain) (meth_ok update_md)
/-! ### d.pop(k, x), k perhaps None -/
theorem pairs_none {P : Program} {w : World} : ∀ {es : List DictEntry} {vs : List (Key × Value)}, Pairs (mixKind P w) es vs → Pairs (noneKind P w) es (vs.map fun kv => ((some kv.1 : Option Key), kv.2))
  | _, _, .nil => .nil
  | _, _, .cons h1 h2 t => .cons h1 h2 (pairs_none t)
theorem none_dict {P : Program} {w : World} {h : Heap} {a : Addr} {vs : List (Key × Value)} (d : h.DictOf (mixKind P w) a vs) : h.DictOf (noneKind P w) a (vs.map fun kv => ((some kv.1 : Option Key), kv.2)) := by
  obtain ⟨o, es, ep, ho, hx, hdt, hk, hp, hn⟩ := d
  refine ⟨o, es, ep, ho, hx, hdt, fun e he => ?_, pairs_none hp, ?_⟩
  · obtain ⟨k, h1, h2⟩ := hk e he
    exact ⟨some k, h1, h2⟩
  · rw [List.map_map]
    have e : (vs.map ((fun x => x.1) ∘ fun kv => ((some kv.1 : Option Key), kv.2))) = (vs.map (·.1)).map some := by
      rw [List.map_map]
      rfl
    rw [e]
    exact List.Pairwise.map _ (fun a b hab z => hab (Option.some.inj z)) hn
theorem d_popNone {pins : List (Addr × Obj)} {σ : L2.St} {H : Hp} {s : Shared} {a : Addr} {kvs : List (Key × V)} {r : Value} {A : Around} {E : Value → Shared → Prop} {Q : Value → Shared → Prop} (I : Inv X pins σ H s) (e : H a = some (.dK kvs)) (h : ∀ s', Inv X pins σ H s' → Q r s') :
    wpAny (model X.prog X.w) A (call (.builtin "dict.pop") [.ref a, .none, r]) Q E s := by
  obtain ⟨z, hd, vs, rel, dd⟩ := dk_of I.hok e
  have dn := none_dict dd
  have hn : valueAt (vs.map fun kv => ((some kv.1 : Option Key), kv.2)) none = none := by
    unfold valueAt
    have : (vs.map fun kv => ((some kv.1 : Option Key), kv.2)).find? (fun kv => decide (kv.1 = none)) = none := by
      rw [List.find?_eq_none]
      intro x hx
      obtain ⟨y, _, rfl⟩ := List.mem_map.mp hx
      simp
    rw [this]
    rfl
  exact call_meetsIn PySem.F.slot_dict_pop dn.typeIs PySem.F.entry_dict_pop (PySem.F.args_dict_pop_3 _ _ _) (meets_dict_pop_default (noneKind X.prog X.w) a (show (noneKind X.prog X.w).is none .none = true from rfl) hd (by rfl) r) ⟨_, dn, hn, h _ (I.tok _)⟩
def tDPop2N (td ty tx : TE) : TE := fun σ H Q => td σ H fun x H1 => ∃ a, x = .ref a ∧ IsD H1 a ∧ ty σ H1 fun y H2 => tx σ H2 fun z H3 => ∃ kvs, H3 a = some (.dK kvs) ∧
  ((∃ k, y = kV k ∧ (∀ v, valV kvs k = some v → Q v (upd H3 a (.dK (dropK kvs k)))) ∧ (valV kvs k = none → Q z H3)) ∨ (y = .non ∧ Q z H3))
theorem pe_dpop2N {td ty tx : TE} {f : Expr} (ho : PE X o td) (he : PE X e ty) (hf : PE X f tx) (m : M2 X o "pop" apos e f cpos) : PE X (.Call (.Attribute o "pop" apos) [e, f] [] cpos) (tDPop2N td ty tx) := by
  refine ⟨fun pins s σ H Q I h => ?_⟩
  refine wpAny_Call_method m.base m.few m.line PySem.F.plainAttrs_dict PySem.F.slot_dict_pop PySem.F.type_dict_pop (thn (ho.run pins s σ H _ I h) fun u s1 ⟨x, H1, I1, rx, a, ex, d, q1⟩ => ?_)
  subst ex
  obtain rfl : u = Value.ref a := rx
  obtain ⟨t1, t2, _⟩ := isD_at I1 d
  refine ⟨t1, t2, ?_⟩
  rw [m.trees]
  refine Calls.callWith_builtin rfl (Calls.evalArgs_plain (Calls.spliced_cons (thn (he.run pins s1 σ H1 _ I1 q1) fun iv s2 ⟨y, H2, I2, ry, q2⟩ =>
    Calls.spliced_cons (thn (hf.run pins s2 σ H2 _ I2 q2) fun fv s3 ⟨z, H3, I3, rz, kvs, ea, q3⟩ => Calls.spliced_nil ?_))))
  rcases q3 with ⟨k, ey, q3, q4⟩ | ⟨ey, q3⟩
  · subst ey
    cases l : valV kvs k with
    | some v => exact d_pop I3 ea ry l (.inr ⟨fv, rfl⟩) fun w' s4 I4 rw' => ⟨v, _, I4, rw', q3 v l⟩
    | none => exact d_popD I3 ea ry l fun s4 I4 => ⟨z, H3, I4, rz, q4 l⟩
  · subst ey
    cases ry
    exact d_popNone I3 ea fun s4 I4 => ⟨z, H3, I4, rz, q3⟩
def pop2D : D → D → D → Sto → Option (D × Sto)
  | .ref n, .non, z, st => match st.get n with
    | some (.dic _) => some (z, st)
    | _ => none
  | .ref n, y, z, st => match st.get n with
    | some (.dic kvs) => y.key.map fun k => match kGet kvs k with
      | some v => (v, st.set n (.dic (kDrop kvs k)))
      | none => (z, st)
    | _ => none
  | _, _, _, _ => none
def pop2F (f g h : M D) : M D := fun env st => (f env st).bind fun p => if isDk p.2 p.1 = true then (g env p.2).bind fun q => (h env q.2).bind fun r => pop2D p.1 q.1 r.1 r.2 else none
theorem de_pop2 {c : Expr} (ho : PE X o (tD X.K f)) (he : PE X e (tD X.K g)) (hc : PE X c (tD X.K h')) (m : M2 X o "pop" apos e c cpos := by exact ⟨rfl, rfl, rfl, rfl⟩) : PE X (.Call (.Attribute o "pop" apos) [e, c] [] cpos) (tD X.K (pop2F f g h')) :=
  weE (pe_dpop2N ho he hc m) (by
  rintro σ H Q ⟨α, st, env, d, st', rel, re, h, k⟩
  obtain ⟨⟨x, s1⟩, hx, h⟩ := bindS h
  split at h
  · rename_i hok
    obtain ⟨⟨y, s2⟩, hy, h⟩ := bindS h
    obtain ⟨⟨z, s3⟩, hz, h⟩ := bindS h
    refine ⟨α, st, env, x, s1, rel, re, hx, fun H1 α1 v S1 rv => ?_⟩
    cases x with
    | ref n =>
      have hD : IsD H1 (α1 n) := by
        unfold isDk at hok
        simp only at hok
        split at hok
        · rename_i e
          obtain ⟨vs, h1, _⟩ := S1.rel.dic e
          exact .inl ⟨vs, .inl h1⟩
        · cases hok
      refine ⟨α1 n, (rdRef rv).2, hD, α1, s1, env, y, s2, S1.rel, re.step S1, hy, fun H2 α2 w S2 rw => ⟨α2, s2, env, z, s3, S2.rel, (re.step S1).step S2, hz, fun H3 α3 u S3 ru => ?_⟩⟩
      have S13 := S1.trans (S2.trans S3)
      have rw3 := rw.step S3
      have hn : α3 n = α1 n := by
        rw [S3.agree n (Nat.lt_of_lt_of_le (rdRef rv).1 S2.le), S2.agree n (rdRef rv).1]
      rw [← hn]
      have gen : ∀ (key : Key) (kvs : List (Key × D)), y.key = some key → s3.get n = some (.dic kvs) → (match kGet kvs key with | some v => (v, s3.set n (.dic (kDrop kvs key))) | none => (z, s3)) = (d, st') →
          ∃ kvs, H3 (α3 n) = some (.dK kvs) ∧ ((∃ k, w = kV k ∧ (∀ v, valV kvs k = some v → Q v (upd H3 (α3 n) (.dK (dropK kvs k)))) ∧ (valV kvs k = none → Q u H3)) ∨ (w = .non ∧ Q u H3)) := by
        intro key kvs hk e q
        obtain ⟨vs, h1, h2⟩ := S3.rel.dic e
        refine ⟨vs, h1, .inl ⟨key, rdKey hk rw3, fun v' hv' => ?_, fun hv' => ?_⟩⟩
        · cases hg : kGet kvs key with
          | none =>
            rw [(RKV.get key h2).2 hg] at hv'
            cases hv'
          | some d' =>
            simp only [hg] at q
            cases q
            obtain ⟨u', hu', hr'⟩ := (RKV.get key h2).1 _ hg
            rw [hu'] at hv'
            cases hv'
            have S := setK S3.rel e (RKV.drop key h2)
            exact k _ _ _ (S13.trans S) (hr'.step S)
        · cases hg : kGet kvs key with
          | some d' =>
            obtain ⟨u', hu', hr'⟩ := (RKV.get key h2).1 _ hg
            rw [hu'] at hv'
            cases hv'
          | none =>
            simp only [hg] at q
            cases q
            exact k _ _ _ S13 ru
      have h' : pop2D (.ref n) y z s3 = some (d, st') := h
      cases y with
      | non =>
        unfold pop2D at h'
        simp only at h'
        split at h'
        · rename_i kvs e
          cases h'
          obtain ⟨vs, h1, h2⟩ := S3.rel.dic e
          exact ⟨vs, h1, .inr ⟨rdNon rw3, k _ _ _ S13 ru⟩⟩
        · cases h'
      | int i =>
        unfold pop2D at h'
        simp only at h'
        split at h'
        · rename_i kvs e
          obtain ⟨key, hk, h'⟩ := mapS h'
          exact gen key kvs hk e h'
        · cases h'
      | str i =>
        unfold pop2D at h'
        simp only at h'
        split at h'
        · rename_i kvs e
          obtain ⟨key, hk, h'⟩ := mapS h'
          exact gen key kvs hk e h'
        · cases h'
      | bl i => unfold pop2D at h'; simp only at h'; split at h' <;> cases h'
      | tup i => unfold pop2D at h'; simp only at h'; split at h' <;> cases h'
      | ref i => unfold pop2D at h'; simp only at h'; split at h' <;> cases h'
    | _ => cases hok
  · cases h)
end
end Dn
/-! Calls of defs, displays of dicts, statements. -/
namespace Dn
open PySem PySem.Spec PyProof.Rows L2
/-! ### a def's promise, by its function -/
abbrev FnD := List D → Sto → Option (D × Sto)
def spD (K : PySem.W.Frag) (n : Nat) (run : FnD) : Sp := fun vs H Q _ => ∃ α st args d st', Rel K H α st ∧ RDs K H α st.size args vs ∧ args.length = n ∧ run args st = some (d, st') ∧
  ∀ H' α' v, Step K H α st.size H' α' st' → RD K H' α' st'.size d v → Q v H'
theorem spD_len {K : PySem.W.Frag} {n : Nat} {run : FnD} {vs : List V} {H : Hp} {Q : VK} {E : XK} (h : spD K n run vs H Q E) : vs.length = n := by
  obtain ⟨α, st, args, d, st', rel, r, hl, _⟩ := h
  rw [r.length, hl]
def callF (n : Nat) (run : FnD) (fs : M (List D)) : M D := fun env st => (fs env st).bind fun p => if p.1.length = n then run p.1 p.2 else none
section
variable {X : Cx} {a b e o i c value : Expr} {es : List Expr} {f g h' : M D} {fs : M (List D)} {pos pos' apos cpos p tpos : Pos} {x : Str}
theorem call_ok {K : PySem.W.Frag} {n : Nat} {run : FnD} : ∀ σ H Q, tD K (callF n run fs) σ H Q → tCall (spD K n run) [] E0 (tDA K fs) σ H Q := by
  rintro σ H Q ⟨α, st, env, d, st', rel, re, h, k⟩
  obtain ⟨⟨xs, s1⟩, hx, h⟩ := bindS h
  split at h
  · rename_i hn
    refine ⟨α, st, env, xs, s1, rel, re, hx, fun H1 α1 vs S1 rvs => ?_⟩
    show spD K n run (vs ++ []) H1 Q E0
    rw [List.append_nil]
    exact ⟨α1, s1, xs, d, st', S1.rel, rvs, hn, h, fun H' α' v S2 rv => k H' α' v (S1.trans S2) rv⟩
  · cases h
theorem de_call {k n : Nat} {fa : Addr} {fd : FuncData} {ps : List Str} {run : FnD} (F : FnOk X.prog X.w X.K X.mg X.base CX0 k fa fd ps (spD X.K n run)) (hr : Room k X.A) (hg : Gl X x) (hm : X.mg x = some (.ref fa)) (hk : PySem.W.keepIn X.K (.ref fa) = true) (hb : Binds X.K fd ps [])
    (ha : PA X (e :: es) (tDA X.K fs)) (hdb : (x == ("__debug__" : Str)) = false := by decide) (he : starEach (e :: es) X.env = (false, eval e X.env) :: starEach es X.env := by rfl) (hpl : (backTo pos (starEach es X.env)).any (·.1) = false := by rfl) :
    PE X (.Call (.Name x p) (e :: es) [] pos) (tD X.K (callF n run fs)) := weE (pe_call F hr hg hm hk hb .nil pass0 ha hdb he hpl) call_ok
theorem de_call0 {k n : Nat} {fa : Addr} {fd : FuncData} {ps : List Str} {run : FnD} (F : FnOk X.prog X.w X.K X.mg X.base CX0 k fa fd ps (spD X.K n run)) (hr : Room k X.A) (hg : Gl X x) (hm : X.mg x = some (.ref fa)) (hk : PySem.W.keepIn X.K (.ref fa) = true) (hb : Binds X.K fd ps [])
    (hdb : (x == ("__debug__" : Str)) = false := by decide) : PE X (.Call (.Name x p) [] [] pos) (tD X.K (callF n run nilF)) := weE (pe_call0 F hr hg hm hk hb .nil pass0 hdb) (by
  rintro σ H Q ⟨α, st, env, d, st', rel, re, h, k⟩
  obtain ⟨⟨xs, s1⟩, hx, h⟩ := bindS h
  cases hx
  split at h
  · rename_i hn
    exact ⟨α, st, [], d, st', rel, .nil, hn, h, k⟩
  · cases h)
/-! ### {k: v, ..} -/
def pairsF : List (M D × M D) → Env → Sto → Option (List (D × D) × Sto)
  | [], _, st => some ([], st)
  | (f, g) :: r, env, st => (f env st).bind fun p => (g env p.2).bind fun q => (pairsF r env q.2).bind fun t => some ((p.1, q.1) :: t.1, t.2)
def RPs (K : PySem.W.Frag) (H : Hp) (α : Nat → Addr) (m : Nat) : List (D × D) → List (V × V) → Prop
  | [], vs => vs = []
  | (a, b) :: ds, vs => ∃ v w r, vs = (v, w) :: r ∧ RD K H α m a v ∧ RD K H α m b w ∧ RPs K H α m ds r
theorem pairs_ok {K : PySem.W.Frag} {env : Env} {σ : L2.St} : ∀ (fs : List (M D × M D)) (α : Nat → Addr) (st : Sto) (ps : List (D × D)) (st' : Sto) (H : Hp) (Q : List (V × V) → Hp → Prop), Rel K H α st → RE K H α st.size σ env → pairsF fs env st = some (ps, st') →
    (∀ H' α' vs, Step K H α st.size H' α' st' → RPs K H' α' st'.size ps vs → Q vs H') → tPairs (fs.map fun p => (tD K p.1, tD K p.2)) σ H Q
  | [], α, st, ps, st', H, Q, rel, re, h, k => by
    cases h
    exact k H α [] (.refl rel) (by unfold RPs; rfl)
  | (f, g) :: r, α, st, ps, st', H, Q, rel, re, h, k => by
    obtain ⟨⟨x, s1⟩, hx, h⟩ := bindS h
    obtain ⟨⟨y, s2⟩, hy, h⟩ := bindS h
    obtain ⟨⟨t, s3⟩, ht, h⟩ := bindS h
    cases h
    refine ⟨α, st, env, x, s1, rel, re, hx, fun H1 α1 v S1 rv => ⟨α1, s1, env, y, s2, S1.rel, re.step S1, hy, fun H2 α2 w S2 rw => ?_⟩⟩
    refine pairs_ok r α2 s2 t s3 H2 _ S2.rel ((re.step S1).step S2) ht fun H3 α3 vs S3 rvs => ?_
    exact k H3 α3 _ (S1.trans (S2.trans S3)) (by unfold RPs; exact ⟨v, w, vs, rfl, (rv.step S2).step S3, rw.step S3, rvs⟩)
def keyAll : List (D × D) → Option (List (Key × D))
  | [] => some []
  | (a, b) :: r => a.key.bind fun k => (keyAll r).map fun t => (k, b) :: t
theorem keyAll_rel {K : PySem.W.Frag} {H : Hp} {α : Nat → Addr} {m : Nat} : ∀ {ps : List (D × D)} {vs : List (V × V)} {kvs : List (Key × D)}, RPs K H α m ps vs → keyAll ps = some kvs →
    ∃ ws : List (Key × V), vs = ws.map (fun kv => (kV kv.1, kv.2)) ∧ RKV K H α m kvs ws
  | [], vs, kvs, r, h => by
    unfold RPs at r
    subst r
    cases h
    exact ⟨[], rfl, by unfold RKV; rfl⟩
  | (a, b) :: ps, vs, kvs, r, h => by
    unfold RPs at r
    obtain ⟨v, w, r', rfl, r1, r2, r3⟩ := r
    obtain ⟨k, hk, h⟩ := bindS h
    obtain ⟨t, ht, h⟩ := mapS h
    cases h
    obtain ⟨ws, e, q⟩ := keyAll_rel r3 ht
    refine ⟨(k, w) :: ws, ?_, by unfold RKV; exact ⟨w, ws, rfl, r2, q⟩⟩
    rw [rdKey hk r1, e]
    rfl
def dispF (fs : List (M D × M D)) : M D := fun env st => (pairsF fs env (st.push (.dic []))).bind fun p => match p.2.get st.size with
  | some (.dic []) => (keyAll p.1).bind fun kvs => if kvs.length ≤ 15 then some (.ref st.size, p.2.set st.size (.dic (kMerge [] kvs))) else none
  | _ => none
theorem de_disp {keys : List (Option Expr)} {values : List Expr} (fs : List (M D × M D)) (h : PPs X pos keys values (fs.map fun p => (tD X.K p.1, tD X.K p.2))) (hall : keys.all (·.isSome) = true := by rfl) (hl : keys.length = values.length := by rfl) (h0 : keys ≠ [] := by intro z; cases z)
    (h15 : keys.length ≤ 15 := by decide) : PE X (.Dict keys values pos) (tD X.K (dispF fs)) := weE (pe_disp h hall hl h0 h15) (by
  rintro σ H Q ⟨α, st, env, d, st', rel, re, h, k⟩ p hp
  obtain ⟨⟨ps, s1⟩, hps, h⟩ := bindS h
  have S0 := newD (vs := []) (as := []) rel (by unfold RKV; rfl) hp
  have hlt : st.size < (st.push (.dic [])).size := by rw [Sto.size_push]; omega
  refine pairs_ok fs _ _ ps s1 _ _ S0.rel (re.step S0) hps fun H1 α1 vs S1 rvs => ?_
  simp only at h
  split at h
  · rename_i e
    obtain ⟨kvs, hk, h⟩ := bindS h
    split at h
    · rename_i hz
      cases h
      obtain ⟨ws, ev, rk⟩ := keyAll_rel rvs hk
      obtain ⟨us, h1, h2⟩ := S1.rel.dic e
      unfold RKV at h2
      subst h2
      have ea : α1 st.size = p := by rw [S1.agree _ hlt, addr_new]
      rw [ea] at h1
      refine ⟨h1, ws, ev, by rw [rk.length]; exact hz, ?_⟩
      have S2 := setK S1.rel e (rk.merge (kvs := []) (us := []) (by unfold RKV; rfl))
      rw [ea] at S2
      refine k _ α1 _ (S0.trans (S1.trans S2)) ?_
      unfold RD
      refine ⟨by rw [Sto.size_set]; exact Sto.get_lt e, by rw [ea]⟩
    · cases h
  · cases h)
theorem de_disp0 : PE X (.Dict [] [] pos) (tD X.K (fun _ st => some (.ref st.size, st.push (.dic [])))) := weE pe_dnewK (by
  rintro σ H Q ⟨α, st, env, d, st', rel, re, h, k⟩ p hp
  cases h
  exact k _ _ _ (newD (vs := []) (as := []) rel (by unfold RKV; rfl) hp) rdNew)
/-! ### statements -/
inductive Res where
  | nx (env : Env) (st : Sto) | rt (d : D) (st : Sto) | bk (env : Env) (st : Sto) | ct (env : Env) (st : Sto)
abbrev SM := Env → Sto → Option Res
def EndsOk (K : PySem.W.Frag) (En : Ends) (H : Hp) (α : Nat → Addr) (m : Nat) : Res → Prop
  | .nx e s => ∀ H' α' σ', Step K H α m H' α' s → RE K H' α' s.size σ' e → En.nx σ' H'
  | .bk e s => ∀ H' α' σ', Step K H α m H' α' s → RE K H' α' s.size σ' e → En.bk σ' H'
  | .ct e s => ∀ H' α' σ', Step K H α m H' α' s → RE K H' α' s.size σ' e → En.ct σ' H'
  | .rt d s => ∀ H' α' v, Step K H α m H' α' s → RD K H' α' s.size d v → En.rt v H'
theorem EndsOk.step {K : PySem.W.Frag} {En : Ends} {H H1 : Hp} {α α1 : Nat → Addr} {m : Nat} {s1 : Sto} {r : Res} (h : EndsOk K En H α m r) (S : Step K H α m H1 α1 s1) : EndsOk K En H1 α1 s1.size r := by
  cases r with
  | nx e s => exact fun H' α' σ' S' re => h H' α' σ' (S.trans S') re
  | bk e s => exact fun H' α' σ' S' re => h H' α' σ' (S.trans S') re
  | ct e s => exact fun H' α' σ' S' re => h H' α' σ' (S.trans S') re
  | rt d s => exact fun H' α' v S' rd => h H' α' v (S.trans S') rd
def tDS (K : PySem.W.Frag) (f : SM) : TS := fun En σ H => ∃ α st env r, Rel K H α st ∧ RE K H α st.size σ env ∧ f env st = some r ∧ EndsOk K En H α st.size r
theorem weS {s : Stmt} {t t' : TS} (h : PS X s t) (w : ∀ En σ H, t' En σ H → t En σ H) : PS X s t' := ⟨fun pins s σ H En I q => h.run pins s σ H En I (w En σ H q)⟩
theorem weSs {s : List Stmt} {t t' : TS} (h : PSs X s t) (w : ∀ En σ H, t' En σ H → t En σ H) : PSs X s t' := ⟨fun pins s σ H En I q => h.run pins s σ H En I (w En σ H q)⟩
variable {fs1 fs2 : SM} {s1 s2 : Stmt} {ss ss2 : List Stmt}
def nextS : SM := fun env st => some (.nx env st)
def seqS (a b : SM) : SM := fun env st => match a env st with
  | some (.nx e s) => b e s
  | r => r
theorem dss_nil : PSs X [] (tDS X.K nextS) := weSs pss_nil (by
  rintro En σ H ⟨α, st, env, r, rel, re, h, k⟩
  cases h
  exact k H α σ (.refl rel) re)
theorem dss_cons (h1 : PS X s1 (tDS X.K fs1)) (h2 : PSs X ss (tDS X.K fs2)) : PSs X (s1 :: ss) (tDS X.K (seqS fs1 fs2)) := weSs (pss_cons h1 h2) (by
  rintro En σ H ⟨α, st, env, r, rel, re, h, k⟩
  unfold seqS at h
  cases q : fs1 env st with
  | none => simp only [q] at h; cases h
  | some r1 =>
    refine ⟨α, st, env, r1, rel, re, q, ?_⟩
    cases r1 with
    | nx e s =>
      simp only [q] at h
      exact fun H' α' σ' S re' => ⟨α', s, e, r, S.rel, re', h, k.step S⟩
    | bk e s => simp only [q] at h; cases h; exact k
    | ct e s => simp only [q] at h; cases h; exact k
    | rt d s => simp only [q] at h; cases h; exact k)
theorem dss_one (h1 : PS X s1 (tDS X.K fs1)) : PSs X [s1] (tDS X.K fs1) := pss_one h1
theorem ds_pass : PS X (.Pass pos) (tDS X.K nextS) := weS ps_pass (by
  rintro En σ H ⟨α, st, env, r, rel, re, h, k⟩
  cases h
  exact k H α σ (.refl rel) re)
def brkS : SM := fun env st => some (.bk env st)
def cntS : SM := fun env st => some (.ct env st)
theorem ds_break : PS X (.Break pos) (tDS X.K brkS) := weS ps_break (by
  rintro En σ H ⟨α, st, env, r, rel, re, h, k⟩
  cases h
  exact k H α σ (.refl rel) re)
theorem ds_continue : PS X (.Continue pos) (tDS X.K cntS) := weS ps_continue (by
  rintro En σ H ⟨α, st, env, r, rel, re, h, k⟩
  cases h
  exact k H α σ (.refl rel) re)
def exprS (f : M D) : SM := fun env st => (f env st).map fun p => .nx env p.2
theorem ds_expr (he : PE X e (tD X.K f)) (hs : swapsWith e none pos.line X.env = pure false := by rfl) : PS X (.Expr e pos) (tDS X.K (exprS f)) := weS (ps_expr he hs) (by
  rintro En σ H ⟨α, st, env, r, rel, re, h, k⟩
  obtain ⟨⟨d, s1⟩, hd, h⟩ := mapS h
  cases h
  exact ⟨α, st, env, d, s1, rel, re, hd, fun H' α' v S rv => k H' α' σ S (re.step S)⟩)
def retS (f : M D) : SM := fun env st => (f env st).map fun p => .rt p.1 p.2
theorem ds_ret (he : PE X e (tD X.K f)) : PS X (.Return (some e) pos) (tDS X.K (retS f)) := weS (ps_ret he) (by
  rintro En σ H ⟨α, st, env, r, rel, re, h, k⟩
  obtain ⟨⟨d, s1⟩, hd, h⟩ := mapS h
  cases h
  exact ⟨α, st, env, d, s1, rel, re, hd, fun H' α' v S rv => k H' α' v S rv⟩)
def ifS (t : M Bool) (a b : SM) : SM := fun env st => (t env st).bind fun p => if p.1 = true then a env p.2 else b env p.2
theorem ds_if {ft : M Bool} (hc : PT X c (tDT X.K ft)) (ha : PSs X ss (tDS X.K fs1)) (hb : PSs X ss2 (tDS X.K fs2)) : PS X (.If c ss ss2 pos) (tDS X.K (ifS ft fs1 fs2)) := weS (ps_if hc ha hb) (by
  rintro En σ H ⟨α, st, env, r, rel, re, h, k⟩
  obtain ⟨⟨d, s1⟩, hd, h⟩ := bindS h
  refine ⟨α, st, env, d, s1, rel, re, hd, fun H1 α1 S1 => ?_⟩
  cases d with
  | true =>
    rw [if_pos rfl] at h
    rw [if_pos rfl]
    exact ⟨α1, s1, env, r, S1.rel, re.step S1, h, k.step S1⟩
  | false =>
    rw [if_neg (by simp)] at h
    rw [if_neg (by simp)]
    exact ⟨α1, s1, env, r, S1.rel, re.step S1, h, k.step S1⟩)
/-- name = e -/
def setS (i : Nat) (f : M D) : SM := fun env st => (f env st).map fun p => .nx (env.set i (some p.1)) p.2
theorem set_ok {K : PySem.W.Frag} {i : Nat} {t : TE} (ht : ∀ σ H Q, tD K f σ H Q → t σ H Q) : ∀ En σ H, tDS K (setS i f) En σ H → tAsg t (gName i) En σ H := by
  rintro En σ H ⟨α, st, env, r, rel, re, h, k⟩
  obtain ⟨⟨d, s1⟩, hd, h⟩ := mapS h
  cases h
  exact ht σ H _ ⟨α, st, env, d, s1, rel, re, hd, fun H' α' v S rv => k H' α' _ S ((re.step S).set rv)⟩
theorem ds_set {i : Nat} (hN : X.N.Nodup) (hi : X.N[i]? = some x) (hx : Loc X.env.scope x) (he : PE X e (tD X.K f)) (hs : swapsWith e (some (.Name x pos')) pos.line X.env = pure false := by rfl) (hf : X.fn x = true ∨ X.env.scope.names.lookup x = some .local := by first | exact .inl rfl | exact .inr rfl | assumption) :
    PS X (.Assign [.Name x pos'] e pos) (tDS X.K (setS i f)) := weS (ps_set hN hi hx he hs hf) (set_ok fun _ _ _ z => z)
/-! ### targets -/
abbrev GM := D → Env → Sto → Option (Env × Sto)
def tDG (K : PySem.W.Frag) (f : GM) : TG := fun v σ H Q => ∃ α st env d env' st', Rel K H α st ∧ RE K H α st.size σ env ∧ RD K H α st.size d v ∧ f d env st = some (env', st') ∧ ∀ H' α' σ', Step K H α st.size H' α' st' → RE K H' α' st'.size σ' env' → Q σ' H'
abbrev GMs := List D → Env → Sto → Option (Env × Sto)
def tDGs (K : PySem.W.Frag) (f : GMs) : TGs := fun vs σ H Q => ∃ α st env ds env' st', Rel K H α st ∧ RE K H α st.size σ env ∧ RDs K H α st.size ds vs ∧ f ds env st = some (env', st') ∧ ∀ H' α' σ', Step K H α st.size H' α' st' → RE K H' α' st'.size σ' env' → Q σ' H'
theorem weG {t t' : TG} (h : PG X e t) (w : ∀ v σ H Q, t' v σ H Q → t v σ H Q) : PG X e t' := ⟨fun pins s σ H v u Q I r q => h.run pins s σ H v u Q I r (w v σ H Q q)⟩
theorem weGs {t t' : TGs} (h : PGs X es t) (w : ∀ v σ H Q, t' v σ H Q → t v σ H Q) : PGs X es t' := ⟨fun pins s σ H v u Q I r q => h.run pins s σ H v u Q I r (w v σ H Q q)⟩
def nameG (i : Nat) : GM := fun d env st => some (env.set i (some d), st)
theorem dg_name {i : Nat} (hN : X.N.Nodup) (hi : X.N[i]? = some x) (hx : Loc X.env.scope x) (hf : X.fn x = true ∨ X.env.scope.names.lookup x = some .local := by first | exact .inl rfl | exact .inr rfl | assumption) : PG X (.Name x pos) (tDG X.K (nameG i)) :=
  weG (pg_name hN hi hx hf) (by
  rintro v σ H Q ⟨α, st, env, d, env', st', rel, re, rd, h, k⟩
  cases h
  exact k H α _ (.refl rel) (re.set rd))
def nilG : GMs := fun ds env st => match ds with
  | [] => some (env, st)
  | _ => none
def consG (f : GM) (g : GMs) : GMs := fun ds env st => match ds with
  | d :: r => (f d env st).bind fun p => g r p.1 p.2
  | [] => none
theorem dgs_nil : PGs X [] (tDGs X.K nilG) := weGs pgs_nil (by
  rintro v σ H Q ⟨α, st, env, ds, env', st', rel, re, rd, h, k⟩
  unfold nilG at h
  split at h
  · cases h
    unfold RDs at rd
    exact ⟨rd, k H α _ (.refl rel) re⟩
  · cases h)
theorem dgs_cons {gf : GM} {gg : GMs} (h1 : PG X e (tDG X.K gf)) (h2 : PGs X es (tDGs X.K gg)) (hs : (assignEach (e :: es) X.env).map (·.2) = assign e X.env :: (assignEach es X.env).map (·.2) := by rfl) : PGs X (e :: es) (tDGs X.K (consG gf gg)) :=
  weGs (pgs_cons h1 h2 hs) (by
  rintro v σ H Q ⟨α, st, env, ds, env', st', rel, re, rd, h, k⟩
  unfold consG at h
  split at h
  · obtain ⟨⟨e1, s1⟩, h1, h⟩ := bindS h
    unfold RDs at rd
    obtain ⟨v, vr, rfl, r1, r2⟩ := rd
    exact ⟨v, vr, rfl, α, st, env, _, e1, s1, rel, re, r1, h1, fun H1 α1 σ1 S1 re1 => ⟨α1, s1, e1, _, env', st', S1.rel, re1, r2.step S1, h, fun H2 α2 σ2 S2 re2 => k H2 α2 σ2 (S1.trans S2) re2⟩⟩
  · cases h)
def tupG (n : Nat) (g : GMs) : GM := fun d env st => match d with
  | .tup xs => if xs.length = n then g xs env st else none
  | _ => none
theorem dg_tup {k n : Nat} {gg : GMs} (hc : X.calm = true) (h : PGs X es (tDGs X.K gg)) (hn : (assignEach es X.env).length = n := by rfl) (hst : (assignEach es X.env).findIdx? (·.1) = none := by rfl) : PG X (.Tuple es k pos) (tDG X.K (tupG n gg)) :=
  weG (pg_tup hc h hn hst) (by
  rintro v σ H Q ⟨α, st, env, d, env', st', rel, re, rd, h, k⟩
  unfold tupG at h
  split at h
  · split at h
    · rename_i hl
      obtain ⟨a, vs, rfl, h1, h2⟩ := rdTup rd
      exact ⟨a, vs, rfl, h1, by rw [h2.length]; exact hl, α, st, env, _, env', st', rel, re, h2, h, k⟩
    · cases h
  · cases h)
/-- o[i] = v, by values -/
def setD : D → D → D → Sto → Option Sto
  | .ref n, i, v, st => match st.get n with
    | some (.lst xs) => match i with
      | .int k => (ixN xs.length k).map fun j => st.set n (.lst (xs.set j v))
      | _ => none
    | some (.dic kvs) => i.key.bind fun k => if kvs.length < SZ then some (st.set n (.dic (kPut kvs k v))) else none
    | _ => none
  | _, _, _, _ => none
def rSetDk : V → V → V → Hp → (Hp → Prop) → Prop := fun o i v H Q => ∃ a H4, o = .ref a ∧ DPut H a i v H4 ∧ Q H4
def rSetA : V → V → V → Hp → (Hp → Prop) → Prop := fun o i v H Q => rSetL o i v H Q ∨ rSetDk o i v H Q
theorem set_any (hu : X.A.units + 1 < cLine) : PSet X rSetA := by
  intro pins s σ H o i v ov iv u Q I ro ri rv h
  rcases h with h | ⟨a, H4, rfl, hp, q⟩
  · exact set_list pins s σ H o i v ov iv u Q I ro ri rv h
  · cases ro
    exact d_setItem hu I hp ri rv fun s' I' => ⟨H4, I', q⟩
theorem setD_ok {K : PySem.W.Frag} {H : Hp} {α : Nat → Addr} {st st' : Sto} {o i d : D} {ov iv v : V} {Q : Hp → Prop} (rel : Rel K H α st) (h : setD o i d st = some st') (ro : RD K H α st.size o ov) (ri : RD K H α st.size i iv) (rd : RD K H α st.size d v)
    (k : ∀ H' α', Step K H α st.size H' α' st' → Q H') : rSetA ov iv v H Q := by
  unfold setD at h
  split at h
  · split at h
    · rename_i xs e
      split at h
      · obtain ⟨j, hj, h⟩ := mapS h
        cases h
        obtain ⟨vs, h1, h2⟩ := rel.lst e
        exact .inl ⟨_, vs, _, j, (rdRef ro).2, rdInt ri, h1, by rw [h2.length]; exact hj, k _ _ (setL rel e (h2.set j rd))⟩
      · cases h
    · rename_i kvs e
      obtain ⟨key, hk, h⟩ := bindS h
      split at h
      · rename_i hz
        cases h
        obtain ⟨vs, h1, h2⟩ := rel.dic e
        exact .inr ⟨_, _, (rdRef ro).2, .inl ⟨vs, key, h1, rdKey hk ri, by rw [h2.length]; exact hz, rfl⟩, k _ _ (setK rel e (h2.put key rd))⟩
      · cases h
    · cases h
  · cases h
def subG (fo fi : M D) : GM := fun d env st => (fo env st).bind fun p => (fi env p.2).bind fun q => (setD p.1 q.1 d q.2).map fun s => (env, s)
theorem dg_sub (hu : X.A.units + 1 < cLine) (ho : PE X o (tD X.K f)) (hi : PE X i (tD X.K g))
    (ha : ∀ v, assign (.Subscript o i pos) X.env v = (do
      let ov ← holding [v] (eval o X.env)
      let iv ← holding [v, ov] (eval i X.env)
      standAt pos
      holding [v, ov, iv] (setItem ov iv v)
      release [v, ov, iv] []) := by intro _; rfl) : PG X (.Subscript o i pos) (tDG X.K (subG f g)) := weG (pg_sub ho hi (set_any hu) ha) (by
  rintro v σ H Q ⟨α, st, env, d, env', st', rel, re, rd, h, k⟩
  obtain ⟨⟨a, s1⟩, h1, h⟩ := bindS h
  obtain ⟨⟨b, s2⟩, h2, h⟩ := bindS h
  obtain ⟨s3, h3, h⟩ := mapS h
  cases h
  refine ⟨α, st, env, a, s1, rel, re, h1, fun H1 α1 ov S1 ro => ⟨α1, s1, env, b, s2, S1.rel, re.step S1, h2, fun H2 α2 iv S2 ri => ?_⟩⟩
  exact setD_ok S2.rel h3 (ro.step S2) ri ((rd.step S1).step S2) fun H3 α3 S3 => k H3 α3 σ (S1.trans (S2.trans S3)) (((re.step S1).step S2).step S3))
def asgS (f : M D) (g : GM) : SM := fun env st => (f env st).bind fun p => (g p.1 env p.2).map fun q => .nx q.1 q.2
theorem ds_asg {tg : Expr} {gg : GM} (he : PE X e (tD X.K f)) (hg : PG X tg (tDG X.K gg)) (hs : swapsWithSole [tg] e pos.line X.env = pure false := by rfl) (hw : swappedStores [tg] e X.env = pure none := by rfl)
    (h1 : (assignEach [tg] X.env).map (·.2) = [assign tg X.env] := by rfl) : PS X (.Assign [tg] e pos) (tDS X.K (asgS f gg)) := weS (ps_asg he hg hs hw h1) (by
  rintro En σ H ⟨α, st, env, r, rel, re, h, k⟩
  obtain ⟨⟨d, s1⟩, hd, h⟩ := bindS h
  obtain ⟨⟨e', s2⟩, h2, h⟩ := mapS h
  cases h
  exact ⟨α, st, env, d, s1, rel, re, hd, fun H1 α1 v S1 rv => ⟨α1, s1, env, d, e', s2, S1.rel, re.step S1, rv, h2, fun H2 α2 σ2 S2 re2 => k H2 α2 σ2 (S1.trans S2) re2⟩⟩)
/-- a, b = x, y and a, b, c = x, y, z of plain names -/
def parS (is : List Nat) (fs : M (List D)) : SM := fun env st => (fs env st).bind fun p => if p.1.length = is.length then some (.nx ((is.zip p.1).foldl (fun e q => e.set q.1 (some q.2)) env) p.2) else none
theorem ds_par {i j : Nat} {y : Str} {px py pt : Pos} {kt k2 pt2} (hc : X.calm = true) (hN : X.N.Nodup) (hi : X.N[i]? = some x) (hj : X.N[j]? = some y) (hij : i ≠ j)
    (hx : X.env.scope.names.lookup x = some .local) (hy : X.env.scope.names.lookup y = some .local) (ha : PA X [a, b] (tDA X.K fs))
    (hw : swappedStores [.Tuple [.Name x px, .Name y py] kt pt] (.Tuple [a, b] k2 pt2) X.env = pure (some [x, y]))
    (hs : swapsWithSole [.Tuple [.Name x px, .Name y py] kt pt] (.Tuple [a, b] k2 pt2) pos.line X.env = pure false := by rfl) :
    PS X (.Assign [.Tuple [.Name x px, .Name y py] kt pt] (.Tuple [a, b] k2 pt2) pos) (tDS X.K (parS [i, j] fs)) := weS (ps_par hc hN hi hj hij hx hy ha hw hs) (by
  rintro En σ H ⟨α, st, env, r, rel, re, h, k⟩
  obtain ⟨⟨ds, s1⟩, hd, h⟩ := bindS h
  split at h
  · rename_i hl
    cases h
    refine ⟨α, st, env, ds, s1, rel, re, hd, fun H1 α1 vs S1 rvs => ?_⟩
    match ds, hl, rvs with
    | [d1, d2], _, rvs =>
      unfold RDs at rvs
      obtain ⟨v, vr, rfl, r1, rvs⟩ := rvs
      unfold RDs at rvs
      obtain ⟨w, wr, rfl, r2, rvs⟩ := rvs
      unfold RDs at rvs
      subst rvs
      exact ⟨v, w, rfl, k H1 α1 _ S1 (((re.step S1).set r1).set r2)⟩
  · cases h)
theorem ds_par3 {i j l : Nat} {y z : Str} {px py pz pt : Pos} {kt k2 pt2} (hc : X.calm = true) (hN : X.N.Nodup) (hi : X.N[i]? = some x) (hj : X.N[j]? = some y) (hl : X.N[l]? = some z) (hij : i ≠ j) (hil : i ≠ l) (hjl : j ≠ l)
    (hx : X.env.scope.names.lookup x = some .local) (hy : X.env.scope.names.lookup y = some .local) (hz : X.env.scope.names.lookup z = some .local) (ha : PA X [a, b, c] (tDA X.K fs))
    (hw : swappedStores [.Tuple [.Name x px, .Name y py, .Name z pz] kt pt] (.Tuple [a, b, c] k2 pt2) X.env = pure (some [x, y, z]))
    (hs : swapsWithSole [.Tuple [.Name x px, .Name y py, .Name z pz] kt pt] (.Tuple [a, b, c] k2 pt2) pos.line X.env = pure false := by rfl) :
    PS X (.Assign [.Tuple [.Name x px, .Name y py, .Name z pz] kt pt] (.Tuple [a, b, c] k2 pt2) pos) (tDS X.K (parS [i, j, l] fs)) := weS (ps_par3 hc hN hi hj hl hij hil hjl hx hy hz ha hw hs) (by
  rintro En σ H ⟨α, st, env, r, rel, re, h, k⟩
  obtain ⟨⟨ds, s1⟩, hd, h⟩ := bindS h
  split at h
  · rename_i hl
    cases h
    refine ⟨α, st, env, ds, s1, rel, re, hd, fun H1 α1 vs S1 rvs => ?_⟩
    match ds, hl, rvs with
    | [d1, d2, d3], _, rvs =>
      unfold RDs at rvs
      obtain ⟨v, vr, rfl, r1, rvs⟩ := rvs
      unfold RDs at rvs
      obtain ⟨w, wr, rfl, r2, rvs⟩ := rvs
      unfold RDs at rvs
      obtain ⟨u, ur, rfl, r3, rvs⟩ := rvs
      unfold RDs at rvs
      subst rvs
      exact ⟨v, w, u, rfl, k H1 α1 _ S1 ((((re.step S1).set r1).set r2).set r3)⟩
  · cases h)
/-! ### op= -/
def augS (i : Nat) (op : D → D → Sto → Option (D × Sto)) (f : M D) : SM := fun env st => match env[i]? with
  | some (some d) => (f env st).bind fun p => (op d p.1 p.2).map fun q => .nx (env.set i (some q.1)) q.2
  | _ => none
theorem ds_aug {i : Nat} {op : Operator} {ti : TIp} {opd : D → D → Sto → Option (D × Sto)} (hN : X.N.Nodup) (hi : X.N[i]? = some x) (hx : Loc X.env.scope x) (he : PE X e (tD X.K f)) (ho : PIp X op ti) (od : OpD X.K opd ti)
    (hf : X.fn x = true ∨ X.env.scope.names.lookup x = some .local := by first | exact .inl rfl | exact .inr rfl | assumption) : PS X (.AugAssign (.Name x pos') op e pos) (tDS X.K (augS i opd f)) := weS (ps_aug hN hi hx he ho hf) (by
  rintro En σ H ⟨α, st, env, r, rel, re, h, k⟩
  unfold augS at h
  split at h
  · rename_i d hd
    obtain ⟨⟨y, s1⟩, hy, h⟩ := bindS h
    obtain ⟨⟨z, s2⟩, hz, h⟩ := mapS h
    cases h
    obtain ⟨v, hv, rv⟩ := re.2 i d hd
    refine ⟨v, hv, α, st, env, y, s1, rel, re, hy, fun H1 α1 w S1 rw => ?_⟩
    exact od H1 α1 s1 d y z s2 v w _ S1.rel hz (rv.step S1) rw fun H2 α2 u S2 ru => k H2 α2 _ (S1.trans S2) (((re.step S1).step S2).set ru)
  · cases h)
def addI : D → D → Sto → Option (D × Sto)
  | .int i, .int j, st => some (.int (i + j), st)
  | _, _, _ => none
def subI : D → D → Sto → Option (D × Sto)
  | .int i, .int j, st => some (.int (i - j), st)
  | _, _, _ => none
theorem ip_addD {K : PySem.W.Frag} : OpD K addI (ipI fun i j => i + j) := by
  intro H α st a b d st' v w Q rel h ra rb k
  unfold addI at h
  split at h
  · cases h
    exact ⟨_, _, rdInt ra, rdInt rb, k H α _ (.refl rel) rInt⟩
  · cases h
/-- d[k] op= e -/
def daugS (op : D → D → Sto → Option (D × Sto)) (fo fi fv : M D) : SM := fun env st => (fo env st).bind fun p => (fi env p.2).bind fun q => match p.1 with
  | .ref n => match q.2.get n with
    | some (.dic kvs) => q.1.key.bind fun k => (kGet kvs k).bind fun d => (fv env q.2).bind fun r => (op d r.1 r.2).bind fun t => match t.2.get n with
      | some (.dic kvs') => if kvs'.length < SZ then some (.nx env (t.2.set n (.dic (kPut kvs' k t.1)))) else none
      | _ => none
    | _ => none
  | _ => none
theorem ds_daug {op : Operator} {rd : V → V → Hp → VK → Prop} {opd : D → D → Sto → Option (D × Sto)} (hu : X.A.units + 1 < cLine) (ho : PE X o (tD X.K f)) (hi : PE X i (tD X.K g)) (hv : PE X value (tD X.K h')) (hop : InOp X op rd) (od : OpD X.K opd rd)
    (ha : ∀ ov iv new, augStore i ov iv new = (do holding [new, ov, iv] (setItem ov iv new); release [new, ov, iv] []; pure .next) := by intro _ _ _; rfl) : PS X (.AugAssign (.Subscript o i tpos) op value pos) (tDS X.K (daugS opd f g h')) := weS (ps_daug hu ho hi hv hop ha) (by
  rintro En σ H ⟨α, st, env, r, rel, re, h, k⟩
  obtain ⟨⟨a, s1⟩, h1, h⟩ := bindS h
  obtain ⟨⟨b, s2⟩, h2, h⟩ := bindS h
  cases a with
  | ref n =>
    simp only at h
    split at h
    · rename_i kvs e
      obtain ⟨key, hk, h⟩ := bindS h
      obtain ⟨d, hd, h⟩ := bindS h
      obtain ⟨⟨y, s3⟩, hy, h⟩ := bindS h
      obtain ⟨⟨z, s4⟩, hz, h⟩ := bindS h
      simp only at h
      split at h
      · rename_i kvs' e'
        split at h
        · rename_i hl
          cases h
          refine ⟨α, st, env, _, s1, rel, re, h1, fun H1 α1 v S1 rv => ⟨α1, s1, env, b, s2, S1.rel, re.step S1, h2, fun H2 α2 w S2 rw => ?_⟩⟩
          obtain ⟨vs, g1, g2⟩ := S2.rel.dic e
          obtain ⟨u, hu', ru⟩ := (RKV.get key g2).1 d hd
          have rv2 := rv.step S2
          refine ⟨α2 n, u, (rdRef rv2).2, .inl ⟨vs, key, .inl g1, rdKey hk rw, hu'.symm⟩, ?_⟩
          have re2 := (re.step S1).step S2
          refine ⟨α2, s2, env, y, s3, S2.rel, re2, hy, fun H3 α3 y' S3 ry => ?_⟩
          refine od H3 α3 s3 d y z s4 u y' _ S3.rel hz (ru.step S3) ry fun H4 α4 z' S4 rz => ?_
          obtain ⟨vs', g3, g4⟩ := S4.rel.dic e'
          have en : α4 n = α2 n := by rw [S4.agree n (Nat.lt_of_lt_of_le (rdRef rv2).1 S3.le), S3.agree n (rdRef rv2).1]
          refine ⟨_, .inl ⟨vs', key, by rw [← en]; exact g3, rdKey hk rw, by rw [g4.length]; exact hl, rfl⟩, ?_⟩
          have S5 := setK S4.rel e' (g4.put key rz)
          rw [en] at S5
          exact k _ α4 σ (S1.trans (S2.trans (S3.trans (S4.trans S5)))) (((re2.step S3).step S4).step S5)
        · cases h
      · cases h
    · cases h
  | _ => cases h)
theorem in_addD {K : PySem.W.Frag} : OpD K addI rAdd := by
  intro H α st a b d st' v w Q rel h ra rb k
  unfold addI at h
  split at h
  · cases h
    exact ⟨_, _, rdInt ra, rdInt rb, k H α _ (.refl rel) rInt⟩
  · cases h
theorem in_subD {K : PySem.W.Frag} : OpD K subI rSub := by
  intro H α st a b d st' v w Q rel h ra rb k
  unfold subI at h
  split at h
  · cases h
    exact ⟨_, _, rdInt ra, rdInt rb, k H α _ (.refl rel) rInt⟩
  · cases h
end
end Dn
/-! What is walked; for, while, comprehensions. -/
namespace PySem
section
set_option maxHeartbeats 1000000 in
theorem dn_enumerate_newB {v : Value} {o : Obj} {H : Heap → Prop} (B : Begins v o H) :
    Meets (Builtin.«enumerate.__new__» ⟨[.type "enumerate", v], []⟩) (fun _ R s => H s.heap ∧
      R (.ok (.ret (.ref (s.heap.push o).objs.size))) { s with heap := (s.heap.push o).push { cls := .type "enumerate", data := .fields #[.none, .bool false, .ref s.heap.objs.size, rawInt 0, .none, .none] } }) :=
  .of_wp fun prog w A R s h => by
    obtain ⟨hp, g, d, tk, os⟩ := s; obtain ⟨h1, h⟩ := h
    have hsub := sub_enumerate
    have q1 : ∀ {A' : Around} {E : Value → Shared → Prop} {Q : Value → Shared → Prop}, Q (.ref hp.objs.size) ⟨hp.push o, g, d, tk, os⟩ → wpAny (model prog w) A' (pyIter v) Q E ⟨hp, g, d, tk, os⟩ :=
      fun q => B.iter prog w _ _ ⟨hp, g, d, tk, os⟩ _ h1 q
    wp_walk using q1
    refine wpAny_stack_any fun st => wpAny_pure ?_
    split
    · rename_i c _ _ _ _ _
      cases (c == Value.type "enumerate")
      · wp_walk using q1
        exact ⟨_, rfl, h⟩
      · wp_walk using q1
        exact ⟨_, rfl, h⟩
    · wp_walk using q1
      exact ⟨_, rfl, h⟩
variable {prog : Program} {w : World} {A : Around} {E : Value → Shared → Prop} {s : Shared}
theorem dn_call_enumerate {v : Value} {o : Obj} {H : Heap → Prop} {Q : Value → Shared → Prop} (B : Begins v o H) (h1 : H s.heap)
    (h : ∀ h', IsEnum h' (s.heap.objs.size + 1) s.heap.objs.size 0 .none → h'.get? s.heap.objs.size = some o → h'.objs.size = s.heap.objs.size + 2 →
      (∀ b o, s.heap.get? b = some o → h'.get? b = some o) → Q (.ref (s.heap.objs.size + 1)) { s with heap := h' }) :
    wpAny (model prog w) A (call (.type "enumerate") [v]) Q E s := by
  refine callType_new F.called_enumerate (by decide) (F.typeCall_enumerate_1 _) (F.newCall_enumerate_1 _) (fun obj => F.args_object_init_2 obj _) F.entry_enumerate_new
    (dn_enumerate_newB B) ⟨h1, ?_⟩
  have hz : (s.heap.push o).objs.size = s.heap.objs.size + 1 := Heap.size_push ..
  show _ ∧ _
  rw [hz]
  have he : IsEnum ((s.heap.push o).push { cls := .type "enumerate", data := .fields #[.none, .bool false, .ref s.heap.objs.size, rawInt 0, .none, .none] }) (s.heap.objs.size + 1) s.heap.objs.size 0 .none := by
    have := Heap.get?_push_size (s.heap.push o) (o := { cls := .type "enumerate", data := .fields #[.none, .bool false, .ref s.heap.objs.size, rawInt 0, .none, .none] }) rfl
    rw [hz] at this; exact this
  refine ⟨⟨_, he, rfl⟩, h _ he (Heap.get?_push_of_some _ (Heap.get?_push_size _ B.free)) (by rw [Heap.size_push, hz]) fun b o x => Heap.get?_push_of_some _ (Heap.get?_push_of_some _ x)⟩
end
end PySem
namespace Dn
open PySem PySem.Spec PyProof.Rows L2
/-! ### enumerate(tuple) -/
def IteT (K : PySem.W.Frag) (a : Addr) : It :=
  ⟨fun i H => ∃ (xs : List V) (x : V), SqT K H a xs ∧ xs[i]? = some x, fun i H v H' => ∃ T x, v = .ref T ∧ H T = none ∧ H' = upd H T (.tup [.int (i : Nat), x]) ∧ ∀ xs, SqT K H a xs → xs[i]? = some x, fun i H => ∃ xs : List V, SqT K H a xs ∧ xs.length ≤ i⟩
theorem turn_enumT {P : Program} {w : World} {K : PySem.W.Frag} {elts : List Expr} {kk : Nat} {tpos : Pos} (a e it : Addr) :
    Turn P w K (.Tuple elts kk tpos) (IteT K a) [e, it] e (fun i h => (∃ old, IsEnum h e it ((i : Nat) : Int) old) ∧ h.IsTupleIter it a i ∧ e ≠ it) where
  mem := by simp
  obj := fun i h st b hb => by
    obtain ⟨⟨old, he⟩, ⟨o, ho, hc, hd⟩, _⟩ := st
    have e' : b = e ∨ b = it := by simpa using hb
    rcases e' with z | z
    · rw [z]; exact ⟨_, he, fun v q => nomatch q⟩
    · rw [z]; exact ⟨o, ho, fun v q => by rw [hd] at q; cases q⟩
  keep := fun i h h' st k => let ⟨⟨old, he⟩, hi, hne⟩ := st; ⟨⟨old, k e (by simp) _ he⟩, hi.at fun o q => k it (by simp) o q, hne⟩
  item := by
    intro X hP hw hK hc i pins s σ H E I hf st hg
    subst hP hw hK
    obtain ⟨⟨old, he⟩, hit, hne⟩ := st
    obtain ⟨xs, x, hq, hx⟩ := hg
    obtain ⟨its, rv, p, hz⟩ := I.tuple hq
    obtain ⟨u, hu, ru⟩ := rv.get hx
    have hel : e < s.heap.objs.size := Heap.lt_size he
    have hil : it < s.heap.objs.size := by obtain ⟨_, q, _⟩ := hit; exact Heap.lt_size q
    have hat : a ≠ it := by
      rintro rfl
      obtain ⟨o1, g1, c1, _⟩ := hit
      obtain ⟨o2, g2, c2, _⟩ := p
      rw [g1] at g2; cases g2
      rw [c1] at c2
      exact absurd c2 (by intro z; injection z with z; exact absurd z (by decide))
    have hea : e ≠ a := by
      rintro rfl
      obtain ⟨o2, g2, c2, _⟩ := p
      rw [show s.heap.get? e = some _ from he] at g2; cases g2
      exact absurd c2 (by intro z; injection z with z; exact absurd z (by decide))
    have hlt : i < its.toArray.size := by
      rw [List.size_toArray]
      exact (List.getElem?_eq_some_iff.mp hu).1
    refine wpAny_pyNext_enum_itemD (Draws.tuple (A := X.A.in1) (I.ok.hd hc) it a hat its.toArray) he ⟨hit, p⟩ hlt hne (by simp [hne, hea]) fun x' h' tk hx' ho hit' hT hsz hk => ?_
    have ex : x' = u := by
      have : its[i]? = some x' := by simpa using hx'
      rw [hu] at this
      exact (Option.some.inj this).symm
    subst ex
    refine ⟨_, rfl, wpAny_letOwnedTupleGo_enum (s := { s with heap := h', toks := tk + 1 }) ho fun h'' he' sb => ?_⟩
    have hT2 : h''.get? s.heap.objs.size = some { cls := .type "tuple", data := .seq #[.int i tk, x'] } := (sb.2 _ (Nat.ne_of_gt hel)).trans hT
    have new : ObjOk X.prog X.w (upd H s.heap.objs.size (.tup [.int (i : Nat), x])) h'' s.heap.objs.size (.tup [.int (i : Nat), x]) :=
      ⟨by show 2 ≤ sizeLine; decide, [.int i tk, x'], .cons ⟨_, rfl⟩ (.cons ru .nil), ⟨_, hT2, rfl, _, rfl⟩⟩
    have I1 : Inv X pins σ (upd H s.heap.objs.size (.tup [.int (i : Nat), x])) { s with heap := h'', toks := tk + 1 } :=
      I.turnedNew (ch := [e, it]) (fun b ob hb q => (sb.2 b (fun z => hb (by simp [z]))).trans (hk b ob (fun z => hb (by simp [z])) (fun z => hb (by simp [z])) q)) hf (Nat.le_refl _) new
    refine ⟨.ref s.heap.objs.size, _, I1, rfl, ⟨_, x, rfl, I.hok.fresh (Nat.le_refl _), rfl, fun ys hy => by rw [I.tuple_inj hy hq]; exact hx⟩, ⟨⟨x', ?_⟩, hit'.1.at fun o q => (sb.2 it (Ne.symm hne)).trans q, hne⟩, fun b hb => ?_⟩
    · have e1 : ((i + 1 : Nat) : Int) = (i : Int) + 1 := by omega
      rw [e1]; exact he'
    · have hb' : b < s.heap.objs.size := by
        have e' : b = e ∨ b = it := by simpa using hb
        rcases e' with z | z
        · rw [z]; exact hel
        · rw [z]; exact hil
      rw [upd_ne (Nat.ne_of_lt hb')]
      exact (hf b hb).1
  done := by
    intro X hP hw hK hc i pins s σ H E I hf st hg
    subst hP hw hK
    obtain ⟨⟨old, he⟩, hit, hne⟩ := st
    obtain ⟨xs, hq, hx⟩ := hg
    obtain ⟨its, rv, p, hz⟩ := I.tuple hq
    obtain ⟨f0, f1, f2, f3, f4, f5⟩ := hf it (by simp)
    have hl := rv.length
    have hT : s.TypeIs (.ref e) "enumerate" := ⟨_, he, rfl⟩
    unfold pyNext
    refine wpAny_bind (wpAny_attempt (wpAny_callSpecial?_slot (name := Str.ofString "__next__") hT F.slot_enumerate_next
      (wpAny_call_entry F.slot_enumerate_next hT F.entry_enumerate_next ?_ (F.args_enumerate_next_1 _))))
    show wpAny _ _ (field (.ref e) 2 >>= _) _ _ _
    refine wpAny_bind (wpAny_field he rfl (x := .ref it) rfl ?_)
    refine wpAny_bind (wpAny_nextOf_tuple_end (I.ok.hd hc) hit p (by simp; omega) fun h' x he' hx' => ?_)
    obtain ⟨o, ho, hc'⟩ := hx'
    refine wpAny_bind (wpAny_isInstance (T := "StopIteration") (b := true) ⟨o, ho, hc'⟩ isSubtype_stop ?_)
    exact wpAny_pure ⟨rfl, I.turned (t' := s.toks) (fun b o hb q => he' b o hb q) f0 f1 f3 f4 f5⟩
  self := fun A i s Q E st h => let ⟨⟨_, he⟩, _⟩ := st; wpAny_pyIter_enum he h
def iEnumA (K : PySem.W.Frag) (te : TE) : TI := fun σ H R => te σ H fun v H1 => ∃ a xs, v = .ref a ∧ ((SqL K H1 a xs ∧ R (Ite K a) H1) ∨ (SqT K H1 a xs ∧ R (IteT K a) H1))
theorem pi_enumA {X : Cx} {e : Expr} {te : TE} {p pos tpos : Pos} {elts : List Expr} {kk : Nat} (hg : Gl X "enumerate") (hm : X.mg "enumerate" = none) (he : PE X e te) (hs : starEach [e] X.env = (false, eval e X.env) :: starEach [] X.env := by rfl) :
    PI X (.Tuple elts kk tpos) (.Call (.Name "enumerate" p) [e] [] pos) (iEnumA X.K te) := by
  refine ⟨fun pins s σ H R I h => ?_⟩
  refine Call_ (ld_blt I hg hm boot_enumerate (PyProof.Rows.callWith_type1 (args_cons (thn (he.run pins s σ H _ I h) fun u s1 ⟨v, H1, I1, r1, q1⟩ => args_nil ?_) hs) hs rfl))
  obtain ⟨a, xs, ex, q⟩ := q1
  subst ex
  cases r1
  have hle : ∀ b ∈ [s1.heap.objs.size + 1, s1.heap.objs.size], s1.heap.objs.size ≤ b := fun b hb => by
    have e' : b = s1.heap.objs.size + 1 ∨ b = s1.heap.objs.size := by simpa using hb
    rcases e' with z | z
    · rw [z]; exact Nat.le_add_right _ _
    · rw [z]; exact Nat.le_refl _
  rcases q with ⟨hq, q⟩ | ⟨hq, q⟩
  · obtain ⟨its, rv, p', hz⟩ := I1.list hq
    refine call_enumerate_list p'.isList fun h' he hit hsz hk => wpAny_pyIter_enum he ?_
    have I2 : Inv X pins σ H1 { s1 with heap := h' } := I1.kept (t' := s1.toks) hk
    exact ⟨s1.heap.objs.size + 1, [s1.heap.objs.size + 1, s1.heap.objs.size], _, _, H1, rfl, I2, turn_enum a (s1.heap.objs.size + 1) s1.heap.objs.size, ⟨⟨.none, he⟩, hit, Nat.succ_ne_self _⟩, fun b hb => I1.fpOk (hle b hb) (I1.hok.fresh (hle b hb)), q⟩
  · obtain ⟨its, rv, p', hz⟩ := I1.tuple hq
    refine dn_call_enumerate (begins_tuple a its.toArray) p' fun h' he hit hsz hk => wpAny_pyIter_enum he ?_
    have I2 : Inv X pins σ H1 { s1 with heap := h' } := I1.kept (t' := s1.toks) hk
    exact ⟨s1.heap.objs.size + 1, [s1.heap.objs.size + 1, s1.heap.objs.size], _, _, H1, rfl, I2, turn_enumT a (s1.heap.objs.size + 1) s1.heap.objs.size, ⟨⟨.none, he⟩, ⟨_, hit, rfl, rfl⟩, Nat.succ_ne_self _⟩, fun b hb => I1.fpOk (hle b hb) (I1.hok.fresh (hle b hb)), q⟩
/-! ### what is walked -/
inductive Src where
  | lst (n : Nat) | tup (xs : List D) | rng (lo : Int) (k : Nat) | rngC (lo c : Int) (k : Nat) | revL (n k : Nat) | revT (xs : List D) | enL (n : Nat) | enT (xs : List D) | keys (n : Nat)
def nextD : Src → Nat → Sto → Option (Option D)
  | .lst n, i, st => (st.seq n).map fun xs => xs[i]?
  | .tup xs, i, _ => some xs[i]?
  | .rng lo k, i, _ => some (if i < k then some (.int (lo + (i : Nat))) else none)
  | .rngC lo c k, i, _ => some (if i < k then some (.int (lo + (i : Nat) * c)) else none)
  | .revL n k, i, st => if i < k then (st.seq n).bind fun xs => (xs[k - 1 - i]?).map some else some none
  | .revT xs, i, _ => if i < xs.length then (xs[xs.length - 1 - i]?).map some else some none
  | .enL n, i, st => (st.seq n).map fun xs => (xs[i]?).map fun x => .tup [.int (i : Nat), x]
  | .enT xs, i, _ => some ((xs[i]?).map fun x => .tup [.int (i : Nat), x])
  | .keys n, i, st => match st.get n with
    | some (.frd kvs) => some ((kvs[i]?).map fun kv => kD kv.1)
    | _ => none
def countD : Src → Sto → Option Nat
  | .lst n, st => (st.seq n).map List.length
  | .tup xs, _ => some xs.length
  | .rng _ k, _ => some k
  | .rngC _ _ k, _ => some k
  | .revL _ k, _ => some k
  | .revT xs, _ => some xs.length
  | .enL n, st => (st.seq n).map List.length
  | .enT xs, _ => some xs.length
  | .keys n, st => match st.get n with
    | some (.frd kvs) => some kvs.length
    | _ => none
def SrcOk (K : PySem.W.Frag) (H : Hp) (α : Nat → Addr) (m : Nat) (src : Src) (J : It) : Prop := ∀ H' α' st', Step K H α m H' α' st' → ∀ i,
  (∀ d, nextD src i st' = some (some d) → J.go i H' ∧ ∀ x H'', J.yld i H' x H'' → Step K H' α' st'.size H'' α' st' ∧ RD K H'' α' st'.size d x) ∧ (nextD src i st' = some none → J.stop i H')
theorem SrcOk.step {K : PySem.W.Frag} {H H1 : Hp} {α α1 : Nat → Addr} {m : Nat} {s1 : Sto} {src : Src} {J : It} (h : SrcOk K H α m src J) (S : Step K H α m H1 α1 s1) : SrcOk K H1 α1 s1.size src J :=
  fun H' α' st' S' => h H' α' st' (S.trans S')
def tDI (K : PySem.W.Frag) (f : Env → Sto → Option (Src × Sto)) : TI := fun σ H R => ∃ α st env src st', Rel K H α st ∧ RE K H α st.size σ env ∧ f env st = some (src, st') ∧ ∀ H' α' J, Step K H α st.size H' α' st' → SrcOk K H' α' st'.size src J → R J H'
section
variable {X : Cx} {tg e a b : Expr} {f g : M D} {pos p tpos : Pos}
theorem wePI {iter : Expr} {t t' : TI} (h : PI X tg iter t) (w : ∀ σ H R, t' σ H R → t σ H R) : PI X tg iter t' := ⟨fun pins s σ H R I q => h.run pins s σ H R I (w σ H R q)⟩
theorem orPI {iter : Expr} {t t' : TI} (h : PI X tg iter t) (h' : PI X tg iter t') : PI X tg iter (fun σ H R => t σ H R ∨ t' σ H R) :=
  ⟨fun pins s σ H R I q => q.elim (h.run pins s σ H R I) (h'.run pins s σ H R I)⟩
theorem src_lst {K : PySem.W.Frag} {H : Hp} {α : Nat → Addr} {m n : Nat} (hn : n < m) : SrcOk K H α m (.lst n) (Itl K (α n)) := by
  intro H' α' st' S i
  refine ⟨fun d h => ?_, fun h => ?_⟩
  · obtain ⟨xs, hs, h⟩ := mapS h
    obtain ⟨vs, h1, h2⟩ := S.rel.seq hs
    rw [S.agree n hn] at h1
    obtain ⟨v, hv, hr⟩ := h2.get h
    refine ⟨⟨vs, v, h1, hv⟩, fun x H'' y => ?_⟩
    obtain ⟨rfl, y⟩ := y
    have := y vs h1
    rw [hv] at this
    cases this
    exact ⟨.refl S.rel, hr⟩
  · obtain ⟨xs, hs, h⟩ := mapS h
    obtain ⟨vs, h1, h2⟩ := S.rel.seq hs
    rw [S.agree n hn] at h1
    exact ⟨vs, h1, by rw [h2.length]; exact List.getElem?_eq_none_iff.mp h⟩
theorem src_tup {K : PySem.W.Frag} {H : Hp} {α : Nat → Addr} {m : Nat} {a : Addr} {xs : List D} {vs : List V} (h1 : SqT K H a vs) (h2 : RDs K H α m xs vs) : SrcOk K H α m (.tup xs) (Itt K a) := by
  intro H' α' st' S i
  have h1' := S.ext.tup _ _ h1
  have h2' := h2.step S
  refine ⟨fun d h => ?_, fun h => ?_⟩
  · have h := Option.some.inj h
    obtain ⟨v, hv, hr⟩ := h2'.get h
    refine ⟨⟨vs, v, h1', hv⟩, fun x H'' y => ?_⟩
    obtain ⟨rfl, y⟩ := y
    have := y vs h1'
    rw [hv] at this
    cases this
    exact ⟨.refl S.rel, hr⟩
  · have h := Option.some.inj h
    exact ⟨vs, h1', by rw [h2'.length]; exact List.getElem?_eq_none_iff.mp h⟩
theorem src_rng {K : PySem.W.Frag} {H : Hp} {α : Nat → Addr} {m : Nat} {lo : Int} {k : Nat} : SrcOk K H α m (.rng lo k) (Itr lo k) := by
  intro H' α' st' S i
  refine ⟨fun d h => ?_, fun h => ?_⟩
  · have h := Option.some.inj h
    split at h
    · rename_i hi
      cases h
      refine ⟨hi, fun x H'' y => ?_⟩
      obtain ⟨rfl, rfl⟩ := y
      exact ⟨.refl S.rel, rInt⟩
    · cases h
  · have h := Option.some.inj h
    split at h
    · cases h
    · rename_i hi
      exact Nat.le_of_not_lt hi
theorem src_rngC {K : PySem.W.Frag} {H : Hp} {α : Nat → Addr} {m : Nat} {lo c : Int} {k : Nat} : SrcOk K H α m (.rngC lo c k) (Itc lo c k) := by
  intro H' α' st' S i
  refine ⟨fun d h => ?_, fun h => ?_⟩
  · have h := Option.some.inj h
    split at h
    · rename_i hi
      cases h
      refine ⟨hi, fun x H'' y => ?_⟩
      obtain ⟨rfl, rfl⟩ := y
      exact ⟨.refl S.rel, rInt⟩
    · cases h
  · have h := Option.some.inj h
    split at h
    · cases h
    · rename_i hi
      exact Nat.le_of_not_lt hi
theorem src_revL {K : PySem.W.Frag} {H : Hp} {α : Nat → Addr} {m n k : Nat} (hn : n < m) : SrcOk K H α m (.revL n k) (Itv K (α n) k) := by
  intro H' α' st' S i
  refine ⟨fun d h => ?_, fun h => ?_⟩
  · have h : (if i < k then (st'.seq n).bind fun xs => (xs[k - 1 - i]?).map some else some none) = some (some d) := h
    by_cases hi : i < k
    · rw [if_pos hi] at h
      obtain ⟨xs, hs, h⟩ := bindS h
      obtain ⟨d', hd, h⟩ := mapS h
      cases h
      obtain ⟨vs, h1, h2⟩ := S.rel.seq hs
      rw [S.agree n hn] at h1
      obtain ⟨v, hv, hr⟩ := h2.get hd
      refine ⟨⟨hi, vs, v, h1, hv⟩, fun x H'' y => ?_⟩
      obtain ⟨rfl, y⟩ := y
      have := y vs h1
      rw [hv] at this
      cases this
      exact ⟨.refl S.rel, hr⟩
    · rw [if_neg hi] at h; cases h
  · have h : (if i < k then (st'.seq n).bind fun xs => (xs[k - 1 - i]?).map some else some none) = some none := h
    by_cases hi : i < k
    · rw [if_pos hi] at h
      obtain ⟨xs, hs, h⟩ := bindS h
      obtain ⟨d', hd, h⟩ := mapS h
      cases h
    · exact Nat.le_of_not_lt hi
theorem src_revT {K : PySem.W.Frag} {H : Hp} {α : Nat → Addr} {m : Nat} {a : Addr} {xs : List D} {vs : List V} (h1 : SqT K H a vs) (h2 : RDs K H α m xs vs) : SrcOk K H α m (.revT xs) (RT.ItvT K a vs.length) := by
  intro H' α' st' S i
  have h1' := S.ext.tup _ _ h1
  have h2' := h2.step S
  refine ⟨fun d h => ?_, fun h => ?_⟩
  · have h : (if i < xs.length then (xs[xs.length - 1 - i]?).map some else some none) = some (some d) := h
    by_cases hi : i < xs.length
    · rw [if_pos hi] at h
      obtain ⟨d', hd, h⟩ := mapS h
      cases h
      obtain ⟨v, hv, hr⟩ := h2'.get hd
      rw [← h2'.length] at hv
      refine ⟨⟨by rw [h2'.length]; exact hi, vs, v, h1', hv⟩, fun x H'' y => ?_⟩
      obtain ⟨rfl, y⟩ := y
      have := y vs h1'
      rw [hv] at this
      cases this
      exact ⟨.refl S.rel, hr⟩
    · rw [if_neg hi] at h; cases h
  · have h : (if i < xs.length then (xs[xs.length - 1 - i]?).map some else some none) = some none := h
    by_cases hi : i < xs.length
    · rw [if_pos hi] at h
      obtain ⟨d', hd, h⟩ := mapS h
      cases h
    · show vs.length ≤ i
      rw [h2'.length]
      exact Nat.le_of_not_lt hi
theorem src_enL {K : PySem.W.Frag} {H : Hp} {α : Nat → Addr} {m n : Nat} (hn : n < m) : SrcOk K H α m (.enL n) (Ite K (α n)) := by
  intro H' α' st' S i
  refine ⟨fun d h => ?_, fun h => ?_⟩
  · obtain ⟨xs, hs, h⟩ := mapS h
    obtain ⟨d', hd, h⟩ := mapS h
    cases h
    obtain ⟨vs, h1, h2⟩ := S.rel.seq hs
    rw [S.agree n hn] at h1
    obtain ⟨v, hv, hr⟩ := h2.get hd
    refine ⟨⟨vs, v, h1, hv⟩, fun x H'' y => ?_⟩
    obtain ⟨T, x', rfl, hT, rfl, y⟩ := y
    have := y vs h1
    rw [hv] at this
    cases this
    have S2 := S.rel.tup (vs := [.int (i : Nat), v]) hT
    exact ⟨S2, rTup (.of upd_same) (.cons rInt (.cons (hr.step S2) .nil))⟩
  · obtain ⟨xs, hs, h⟩ := mapS h
    obtain ⟨vs, h1, h2⟩ := S.rel.seq hs
    rw [S.agree n hn] at h1
    refine ⟨vs, h1, by rw [h2.length]; exact List.getElem?_eq_none_iff.mp (Option.map_eq_none_iff.mp h)⟩
theorem src_enT {K : PySem.W.Frag} {H : Hp} {α : Nat → Addr} {m : Nat} {a : Addr} {xs : List D} {vs : List V} (h1 : SqT K H a vs) (h2 : RDs K H α m xs vs) : SrcOk K H α m (.enT xs) (IteT K a) := by
  intro H' α' st' S i
  have h1' := S.ext.tup _ _ h1
  have h2' := h2.step S
  refine ⟨fun d h => ?_, fun h => ?_⟩
  · have h := Option.some.inj h
    obtain ⟨d', hd, h⟩ := mapS h
    cases h
    obtain ⟨v, hv, hr⟩ := h2'.get hd
    refine ⟨⟨vs, v, h1', hv⟩, fun x H'' y => ?_⟩
    obtain ⟨T, x', rfl, hT, rfl, y⟩ := y
    have := y vs h1'
    rw [hv] at this
    cases this
    have S2 := S.rel.tup (vs := [.int (i : Nat), v]) hT
    exact ⟨S2, rTup (.of upd_same) (.cons rInt (.cons (hr.step S2) .nil))⟩
  · have h := Option.some.inj h
    exact ⟨vs, h1', by rw [h2'.length]; exact List.getElem?_eq_none_iff.mp (Option.map_eq_none_iff.mp h)⟩
/-- a list or a tuple -/
def seqI (f : M D) : Env → Sto → Option (Src × Sto) := fun env st => (f env st).bind fun p => match p.1 with
  | .tup xs => some (.tup xs, p.2)
  | .ref n => (p.2.seq n).map fun _ => (.lst n, p.2)
  | _ => none
theorem di_seq (he : PE X e (tD X.K f)) : PI X tg e (tDI X.K (seqI f)) := wePI (orPI (pi_list he) (pi_tup he)) (by
  rintro σ H R ⟨α, st, env, src, st', rel, re, h, k⟩
  obtain ⟨⟨d, s1⟩, hd, h⟩ := bindS h
  cases d with
  | tup xs =>
    cases h
    refine .inr ⟨α, st, env, _, s1, rel, re, hd, fun H1 α1 v S1 rv => ?_⟩
    obtain ⟨a, vs, rfl, h1, h2⟩ := rdTup rv
    exact ⟨a, rfl, ⟨vs, h1⟩, k H1 α1 _ S1 (src_tup h1 h2)⟩
  | ref n =>
    obtain ⟨xs, hs, h⟩ := mapS h
    cases h
    refine .inl ⟨α, st, env, _, s1, rel, re, hd, fun H1 α1 v S1 rv => ?_⟩
    obtain ⟨hn, rfl⟩ := rdRef rv
    obtain ⟨vs, h1, h2⟩ := S1.rel.seq hs
    exact ⟨_, rfl, ⟨vs, h1⟩, k H1 α1 _ S1 (src_lst hn)⟩
  | _ => cases h)
def rng1I (f : M D) : Env → Sto → Option (Src × Sto) := fun env st => (f env st).bind fun p => match p.1 with
  | .int j => if -(2 ^ 62) ≤ j ∧ j < 2 ^ 62 then some (.rng 0 j.toNat, p.2) else none
  | _ => none
theorem di_rng1 (hg : Gl X "range") (hm : X.mg "range" = none) (ha : PE X a (tD X.K f)) (hs : starEach [a] X.env = (false, eval a X.env) :: starEach [] X.env := by rfl) : PI X tg (.Call (.Name "range" p) [a] [] pos) (tDI X.K (rng1I f)) := wePI (pi_range1 hg hm (da_cons ha da_nil hs) hs) (by
  rintro σ H R ⟨α, st, env, src, st', rel, re, h, k⟩
  obtain ⟨⟨d, s1⟩, hd, h⟩ := bindS h
  cases d with
  | int j =>
    simp only at h
    split at h
    · rename_i hj
      cases h
      refine ⟨α, st, env, [.int j], st', rel, re, by unfold consF nilF; rw [hd]; rfl, fun H1 α1 vs S1 rvs => ?_⟩
      unfold RDs at rvs
      obtain ⟨v, vr, rfl, r1, r2⟩ := rvs
      unfold RDs at r2
      subst r2
      cases rdInt r1
      exact ⟨j, rfl, hj.1, hj.2, k H1 α1 _ S1 src_rng⟩
    · cases h
  | _ => cases h)
def rng2I (f g : M D) : Env → Sto → Option (Src × Sto) := fun env st => (f env st).bind fun p => (g env p.2).bind fun q => match p.1, q.1 with
  | .int i, .int j => if -(2 ^ 62) ≤ i ∧ i < 2 ^ 62 ∧ -(2 ^ 62) ≤ j ∧ j < 2 ^ 62 then some (.rng i (j - i).toNat, q.2) else none
  | _, _ => none
theorem di_rng2 (hg : Gl X "range") (hm : X.mg "range" = none) (ha : PE X a (tD X.K f)) (hb : PE X b (tD X.K g)) (hs : starEach [a, b] X.env = (false, eval a X.env) :: starEach [b] X.env := by rfl) (hs2 : starEach [b] X.env = (false, eval b X.env) :: starEach [] X.env := by rfl)
    (hs3 : starEach [a, b] X.env = [(false, eval a X.env), (false, eval b X.env)] := by rfl) (hs4 : starEach [b] X.env = [(false, eval b X.env)] := by rfl) : PI X tg (.Call (.Name "range" p) [a, b] [] pos) (tDI X.K (rng2I f g)) := wePI (pi_range2 hg hm (da_cons ha (da_cons hb da_nil hs2) hs) hs3 hs4) (by
  rintro σ H R ⟨α, st, env, src, st', rel, re, h, k⟩
  obtain ⟨⟨d, s1⟩, hd, h⟩ := bindS h
  obtain ⟨⟨d2, s2⟩, hd2, h⟩ := bindS h
  cases d with
  | int i =>
    cases d2 with
    | int j =>
      simp only at h
      split at h
      · rename_i hj
        cases h
        refine ⟨α, st, env, [.int i, .int j], st', rel, re, by unfold consF nilF; simp only [hd, hd2, Option.bind_some], fun H1 α1 vs S1 rvs => ?_⟩
        unfold RDs at rvs
        obtain ⟨v, vr, rfl, r1, r2⟩ := rvs
        unfold RDs at r2
        obtain ⟨w, wr, rfl, r2, r3⟩ := r2
        unfold RDs at r3
        subst r3
        cases rdInt r1
        cases rdInt r2
        exact ⟨i, j, rfl, hj, k H1 α1 _ S1 src_rng⟩
      · cases h
    | _ => cases h
  | _ => cases h)
def revI (f : M D) : Env → Sto → Option (Src × Sto) := fun env st => (f env st).bind fun p => match p.1 with
  | .tup xs => some (.revT xs, p.2)
  | .ref n => (p.2.seq n).map fun xs => (.revL n xs.length, p.2)
  | _ => none
theorem di_rev (hg : Gl X "reversed") (hm : X.mg "reversed" = none) (he : PE X e (tD X.K f)) (hs : starEach [e] X.env = (false, eval e X.env) :: starEach [] X.env := by rfl) : PI X tg (.Call (.Name "reversed" p) [e] [] pos) (tDI X.K (revI f)) := wePI (RT.pi_revA hg hm he hs) (by
  rintro σ H R ⟨α, st, env, src, st', rel, re, h, k⟩
  obtain ⟨⟨d, s1⟩, hd, h⟩ := bindS h
  refine ⟨α, st, env, d, s1, rel, re, hd, fun H1 α1 v S1 rv => ?_⟩
  cases d with
  | tup xs =>
    cases h
    obtain ⟨a, vs, rfl, h1, h2⟩ := rdTup rv
    exact ⟨a, vs, rfl, .inr ⟨h1, k H1 α1 _ S1 (src_revT h1 h2)⟩⟩
  | ref n =>
    obtain ⟨xs, hs, h⟩ := mapS h
    cases h
    obtain ⟨hn, rfl⟩ := rdRef rv
    obtain ⟨vs, h1, h2⟩ := S1.rel.seq hs
    exact ⟨_, vs, rfl, .inl ⟨h1, by rw [h2.length]; exact k H1 α1 _ S1 (src_revL hn)⟩⟩
  | _ => cases h)
def revRI (f : Env → Sto → Option ((Int × Int) × Sto)) : Env → Sto → Option (Src × Sto) := fun env st => (f env st).bind fun p => if -(2 ^ 62) ≤ p.1.1 ∧ p.1.1 < 2 ^ 62 ∧ -(2 ^ 62) ≤ p.1.2 ∧ p.1.2 < 2 ^ 62 then
  some (.rngC (p.1.1 + (((p.1.2 - p.1.1).toNat : Nat) : Int) - 1) (-1) (p.1.2 - p.1.1).toNat, p.2) else none
theorem di_revR {fr : Env → Sto → Option ((Int × Int) × Sto)} (hg : Gl X "reversed") (hm : X.mg "reversed" = none) (he : PRg X e (tDR X.K fr)) (hs : starEach [e] X.env = (false, eval e X.env) :: starEach [] X.env := by rfl) : PI X tg (.Call (.Name "reversed" p) [e] [] pos) (tDI X.K (revRI fr)) := wePI (pi_revR hg hm he hs) (by
  rintro σ H R ⟨α, st, env, src, st', rel, re, h, k⟩
  obtain ⟨⟨d, s1⟩, hd, h⟩ := bindS h
  split at h
  · rename_i hj
    cases h
    exact ⟨α, st, env, d, s1, rel, re, hd, fun H1 α1 S1 => ⟨hj.1, hj.2.1, hj.2.2.1, hj.2.2.2, k H1 α1 _ S1 src_rngC⟩⟩
  · cases h)
def enumI (f : M D) : Env → Sto → Option (Src × Sto) := fun env st => (f env st).bind fun p => match p.1 with
  | .tup xs => some (.enT xs, p.2)
  | .ref n => (p.2.seq n).map fun xs => (.enL n, p.2)
  | _ => none
theorem di_enum {elts : List Expr} {kk : Nat} (hg : Gl X "enumerate") (hm : X.mg "enumerate" = none) (he : PE X e (tD X.K f)) (hs : starEach [e] X.env = (false, eval e X.env) :: starEach [] X.env := by rfl) : PI X (.Tuple elts kk tpos) (.Call (.Name "enumerate" p) [e] [] pos) (tDI X.K (enumI f)) := wePI (pi_enumA hg hm he hs) (by
  rintro σ H R ⟨α, st, env, src, st', rel, re, h, k⟩
  obtain ⟨⟨d, s1⟩, hd, h⟩ := bindS h
  refine ⟨α, st, env, d, s1, rel, re, hd, fun H1 α1 v S1 rv => ?_⟩
  cases d with
  | tup xs =>
    cases h
    obtain ⟨a, vs, rfl, h1, h2⟩ := rdTup rv
    exact ⟨a, vs, rfl, .inr ⟨h1, k H1 α1 _ S1 (src_enT h1 h2)⟩⟩
  | ref n =>
    obtain ⟨xs, hs, h⟩ := mapS h
    cases h
    obtain ⟨hn, rfl⟩ := rdRef rv
    obtain ⟨vs, h1, h2⟩ := S1.rel.seq hs
    exact ⟨_, vs, rfl, .inl ⟨h1, k H1 α1 _ S1 (src_enL hn)⟩⟩
  | _ => cases h)
/-! ### for -/
def forL (src : Src) (g : GM) (body : SM) : Nat → Nat → SM
  | 0, i, env, st => match nextD src i st with
    | some none => some (.nx env st)
    | _ => none
  | k + 1, i, env, st => match nextD src i st with
    | some (some d) => match g d env st with
      | some (e1, s1) => match body e1 s1 with
        | some (.nx e s) => forL src g body k (i + 1) e s
        | some (.ct e s) => forL src g body k (i + 1) e s
        | some (.bk e s) => some (.nx e s)
        | r => r
      | none => none
    | _ => none
def forS (it : Env → Sto → Option (Src × Sto)) (g : GM) (body : SM) : SM := fun env st => (it env st).bind fun p => (countD p.1 p.2).bind fun k => forL p.1 g body k 0 env p.2
theorem ds_for {iter : Expr} {body : List Stmt} {fi : Env → Sto → Option (Src × Sto)} {gg : GM} {fb : SM} (hp : PassesOwn (model X.prog X.w) X.A X.env X.xe) (hc : X.calm = true) (hi : PI X tg iter (tDI X.K fi)) (hg : PG X tg (tDG X.K gg)) (hb : PSs X body (tDS X.K fb))
    (hs : ∀ x, foldedSetIterable iter X.env x = pure x := by intro _; rfl) : PS X (.For tg iter body [] pos) (tDS X.K (forS fi gg fb)) := weS (ps_for hp hc hi hg hb hs) (by
  rintro En σ H ⟨α, st, env, r, rel, re, h, k⟩
  obtain ⟨⟨src, s1⟩, hd, h⟩ := bindS h
  obtain ⟨n, hn, h⟩ := bindS h
  refine ⟨α, st, env, src, s1, rel, re, hd, fun H1 α1 J S1 hJ => ?_⟩
  refine ⟨fun i m σ H => ∃ α s env, Rel X.K H α s ∧ RE X.K H α s.size σ env ∧ SrcOk X.K H α s.size src J ∧ forL src gg fb m i env s = some r ∧ EndsOk X.K En H α s.size r,
    ⟨n, α1, s1, env, S1.rel, re.step S1, hJ, h, k.step S1⟩, ?_⟩
  rintro i m σ2 H2 ⟨α2, s2, e2, rel2, re2, hJ2, h2, k2⟩
  have hJ3 := hJ2 H2 α2 s2 (.refl rel2) i
  cases m with
  | zero =>
    unfold forL at h2
    split at h2
    · rename_i e
      cases h2
      exact .inl ⟨hJ3.2 e, k2 H2 α2 σ2 (.refl rel2) re2⟩
    · cases h2
  | succ m =>
    unfold forL at h2
    split at h2
    · rename_i d e
      obtain ⟨go, yl⟩ := hJ3.1 d e
      split at h2
      · rename_i e3 s3 eg
        refine .inr ⟨go, fun σ H => ∃ α s env, Rel X.K H α s ∧ RE X.K H α s.size σ env ∧ SrcOk X.K H α s.size src J ∧ forL src gg fb m (i + 1) env s = some r ∧ EndsOk X.K En H α s.size r,
          fun σ' H' z => ⟨m, Nat.lt_succ_self _, z⟩, fun x H4 y => ?_⟩
        obtain ⟨S4, rx⟩ := yl x H4 y
        refine ⟨α2, s2, e2, d, e3, s3, S4.rel, re2.step S4, rx, eg, fun H5 α5 σ5 S5 re5 => ?_⟩
        cases hbd : fb e3 s3 with
        | none => simp only [hbd] at h2; cases h2
        | some rb =>
          refine ⟨α5, s3, e3, rb, S5.rel, re5, hbd, ?_⟩
          have S25 := S4.trans S5
          cases rb with
          | nx e s =>
            simp only [hbd] at h2
            exact fun H6 α6 σ6 S6 re6 => ⟨α6, s, e, S6.rel, re6, hJ2.step (S25.trans S6), h2, k2.step (S25.trans S6)⟩
          | ct e s =>
            simp only [hbd] at h2
            exact fun H6 α6 σ6 S6 re6 => ⟨α6, s, e, S6.rel, re6, hJ2.step (S25.trans S6), h2, k2.step (S25.trans S6)⟩
          | bk e s =>
            simp only [hbd] at h2
            cases h2
            exact fun H6 α6 σ6 S6 re6 => k2 H6 α6 σ6 (S25.trans S6) re6
          | rt d' s =>
            simp only [hbd] at h2
            cases h2
            exact fun H6 α6 v S6 rv => k2 H6 α6 v (S25.trans S6) rv
      · cases h2
    · cases h2)
/-! ### while -/
def whileL (c : M Bool) (body : SM) : Nat → SM
  | 0, _, _ => none
  | k + 1, env, st => match c env st with
    | some (true, s1) => match body env s1 with
      | some (.nx e s) => whileL c body k e s
      | some (.ct e s) => whileL c body k e s
      | some (.bk e s) => some (.nx e s)
      | r => r
    | some (false, s1) => some (.nx env s1)
    | none => none
def WF : Nat := 1000000000000000000
def whileS (c : M Bool) (body : SM) : SM := fun env st => whileL c body WF env st
theorem ds_while {c : Expr} {body : List Stmt} {fc : M Bool} {fb : SM} (hp : PassesOwn (model X.prog X.w) X.A X.env X.xe) (hc : PT X c (tDT X.K fc)) (hb : PSs X body (tDS X.K fb)) : PS X (.While c body [] pos) (tDS X.K (whileS fc fb)) := weS (ps_while hp hc hb) (by
  rintro En σ H ⟨α, st, env, r, rel, re, h, k⟩
  refine ⟨fun m σ H => ∃ α s env, Rel X.K H α s ∧ RE X.K H α s.size σ env ∧ whileL fc fb m env s = some r ∧ EndsOk X.K En H α s.size r, ⟨WF, α, st, env, rel, re, h, k⟩, ?_⟩
  rintro m σ2 H2 ⟨α2, s2, e2, rel2, re2, h2, k2⟩
  cases m with
  | zero => cases h2
  | succ m =>
    unfold whileL at h2
    split at h2
    · rename_i s3 ec
      refine ⟨α2, s2, e2, true, s3, rel2, re2, ec, fun H3 α3 S3 => ?_⟩
      simp only [if_true]
      refine ⟨fun σ H => ∃ α s env, Rel X.K H α s ∧ RE X.K H α s.size σ env ∧ whileL fc fb m env s = some r ∧ EndsOk X.K En H α s.size r, fun σ' H' z => ⟨m, Nat.lt_succ_self _, z⟩, ?_⟩
      cases hbd : fb e2 s3 with
      | none => simp only [hbd] at h2; cases h2
      | some rb =>
        refine ⟨α3, s3, e2, rb, S3.rel, re2.step S3, hbd, ?_⟩
        cases rb with
        | nx e s =>
          simp only [hbd] at h2
          exact fun H6 α6 σ6 S6 re6 => ⟨α6, s, e, S6.rel, re6, h2, k2.step (S3.trans S6)⟩
        | ct e s =>
          simp only [hbd] at h2
          exact fun H6 α6 σ6 S6 re6 => ⟨α6, s, e, S6.rel, re6, h2, k2.step (S3.trans S6)⟩
        | bk e s =>
          simp only [hbd] at h2
          cases h2
          exact fun H6 α6 σ6 S6 re6 => k2 H6 α6 σ6 (S3.trans S6) re6
        | rt d' s =>
          simp only [hbd] at h2
          cases h2
          exact fun H6 α6 v S6 rv => k2 H6 α6 v (S3.trans S6) rv
    · rename_i s3 ec
      refine ⟨α2, s2, e2, false, s3, rel2, re2, ec, fun H3 α3 S3 => ?_⟩
      cases h2
      exact k2 H3 α3 σ2 S3 (re2.step S3)
    · cases h2)
end
end Dn
/-! List comprehensions; a dict that is gone through. -/
namespace Dn
open PySem PySem.Spec PyProof.Rows L2
/-! ### targets of a block of its own -/
def tDGw (K : PySem.W.Frag) (vs : List Nat) (f : GM) : TG := fun v σ H Q => ∃ α st env d env' st', Rel K H α st ∧ RE K H α st.size σ env ∧ RD K H α st.size d v ∧ f d env st = some (env', st') ∧ ∀ H' α' σ', Step K H α st.size H' α' st' → RE K H' α' st'.size σ' env' → wipe σ' vs = wipe σ vs → Q σ' H'
def tDGsw (K : PySem.W.Frag) (vs : List Nat) (f : GMs) : TGs := fun ws σ H Q => ∃ α st env ds env' st', Rel K H α st ∧ RE K H α st.size σ env ∧ RDs K H α st.size ds ws ∧ f ds env st = some (env', st') ∧ ∀ H' α' σ', Step K H α st.size H' α' st' → RE K H' α' st'.size σ' env' → wipe σ' vs = wipe σ vs → Q σ' H'
theorem wipe_set {σ : L2.St} {i : Nat} {x : Option V} : ∀ {vs : List Nat}, i ∈ vs → wipe (σ.set i x) vs = wipe σ vs
  | [], h => by cases h
  | v :: vs, h => by
    unfold wipe
    by_cases hi : v = i
    · subst hi
      by_cases hv : v ∈ vs
      · rw [wipe_set hv]
      · have key : ∀ (ws : List Nat) (σ : L2.St), v ∉ ws → wipe (σ.set v x) ws = (wipe σ ws).set v x := by
          intro ws
          induction ws with
          | nil => intro σ _; rfl
          | cons w ws ih =>
            intro σ hw
            have h1 : v ≠ w := fun e => hw (by simp [e])
            have h2 : v ∉ ws := fun e => hw (by simp [e])
            unfold wipe
            rw [ih σ h2, List.set_comm _ _ h1]
        rw [key vs σ hv, List.set_set]
    · have : i ∈ vs := by
        rcases List.mem_cons.mp h with e | e
        · exact absurd e.symm hi
        · exact e
      rw [wipe_set this]
theorem wipe_idem (σ : L2.St) (vs : List Nat) : wipe (wipe σ vs) vs = wipe σ vs := by
  have key : ∀ ws : List Nat, (∀ j ∈ ws, j ∈ vs) → wipe (wipe σ ws) vs = wipe σ vs := by
    intro ws
    induction ws with
    | nil => intro _; rfl
    | cons w ws ih =>
      intro h
      show wipe ((wipe σ ws).set w none) vs = _
      rw [wipe_set (h w (by simp))]
      exact ih fun j hj => h j (by simp [hj])
  exact key vs fun _ h => h
section
variable {K : PySem.W.Frag} {H H' : Hp} {α : Nat → Addr} {m m' : Nat}
mutual
theorem rdT (e : ∀ a xs, SqT K H a xs → SqT K H' a xs) (l : m ≤ m') : ∀ {d : D} {v : V}, RD K H α m d v → RD K H' α m' d v
  | .non, _, h => h
  | .bl _, _, h => h
  | .int _, _, h => h
  | .str _, _, h => h
  | .ref n, v, h => by
    unfold RD at h ⊢
    exact ⟨Nat.lt_of_lt_of_le h.1 l, h.2⟩
  | .tup xs, v, h => by
    unfold RD at h ⊢
    obtain ⟨a, vs, hv, hs, hr⟩ := h
    exact ⟨a, vs, hv, e _ _ hs, rdsT e l hr⟩
theorem rdsT (e : ∀ a xs, SqT K H a xs → SqT K H' a xs) (l : m ≤ m') : ∀ {ds : List D} {vs : List V}, RDs K H α m ds vs → RDs K H' α m' ds vs
  | [], _, h => h
  | d :: ds, vs, h => by
    unfold RDs at h ⊢
    obtain ⟨v, r, hv, h1, h2⟩ := h
    exact ⟨v, r, hv, rdT e l h1, rdsT e l h2⟩
end
theorem rkvT (e : ∀ a xs, SqT K H a xs → SqT K H' a xs) (l : m ≤ m') : ∀ {ds : List (Key × D)} {vs : List (Key × V)}, RKV K H α m ds vs → RKV K H' α m' ds vs
  | [], _, h => h
  | (k, d) :: ds, vs, h => by
    unfold RKV at h ⊢
    obtain ⟨v, r, hv, h1, h2⟩ := h
    exact ⟨v, r, hv, rdT e l h1, rkvT e l h2⟩
end
def wipeE (env : Env) : List Nat → Env
  | [] => env
  | v :: vs => (wipeE env vs).set v none
theorem RE.wipe {K : PySem.W.Frag} {H : Hp} {α : Nat → Addr} {m : Nat} {σ : L2.St} {env : Env} (h : RE K H α m σ env) : ∀ vs : List Nat, RE K H α m (wipe σ vs) (wipeE env vs)
  | [] => h
  | v :: vs => (RE.wipe h vs).clear
section
variable {X : Cx} {x : Str} {e : Expr} {es : List Expr} {pos : Pos} {vs : List Nat}
theorem dgw_name {i : Nat} (hN : X.N.Nodup) (hi : X.N[i]? = some x) (hx : Loc X.env.scope x) (hv : i ∈ vs := by decide) (hf : X.fn x = true ∨ X.env.scope.names.lookup x = some .local := by first | exact .inl rfl | exact .inr rfl | assumption) : PG X (.Name x pos) (tDGw X.K vs (nameG i)) :=
  weG (pg_name hN hi hx hf) (by
  rintro v σ H Q ⟨α, st, env, d, env', st', rel, re, rd, h, k⟩
  cases h
  exact k H α _ (.refl rel) (re.set rd) (wipe_set hv))
theorem dgsw_nil : PGs X [] (tDGsw X.K vs nilG) := weGs pgs_nil (by
  rintro v σ H Q ⟨α, st, env, ds, env', st', rel, re, rd, h, k⟩
  unfold nilG at h
  split at h
  · cases h
    unfold RDs at rd
    exact ⟨rd, k H α _ (.refl rel) re rfl⟩
  · cases h)
theorem dgsw_cons {gf : GM} {gg : GMs} (h1 : PG X e (tDGw X.K vs gf)) (h2 : PGs X es (tDGsw X.K vs gg)) (hs : (assignEach (e :: es) X.env).map (·.2) = assign e X.env :: (assignEach es X.env).map (·.2) := by rfl) : PGs X (e :: es) (tDGsw X.K vs (consG gf gg)) :=
  weGs (pgs_cons h1 h2 hs) (by
  rintro v σ H Q ⟨α, st, env, ds, env', st', rel, re, rd, h, k⟩
  unfold consG at h
  split at h
  · obtain ⟨⟨e1, s1⟩, h1, h⟩ := bindS h
    unfold RDs at rd
    obtain ⟨v, vr, rfl, r1, r2⟩ := rd
    exact ⟨v, vr, rfl, α, st, env, _, e1, s1, rel, re, r1, h1, fun H1 α1 σ1 S1 re1 w1 => ⟨α1, s1, e1, _, env', st', S1.rel, re1, r2.step S1, h, fun H2 α2 σ2 S2 re2 w2 => k H2 α2 σ2 (S1.trans S2) re2 (w2.trans w1)⟩⟩
  · cases h)
theorem dgw_tup {k n : Nat} {gg : GMs} (hc : X.calm = true) (h : PGs X es (tDGsw X.K vs gg)) (hn : (assignEach es X.env).length = n := by rfl) (hst : (assignEach es X.env).findIdx? (·.1) = none := by rfl) : PG X (.Tuple es k pos) (tDGw X.K vs (tupG n gg)) :=
  weG (pg_tup hc h hn hst) (by
  rintro v σ H Q ⟨α, st, env, d, env', st', rel, re, rd, h, k⟩
  unfold tupG at h
  split at h
  · split at h
    · rename_i hl
      obtain ⟨a, vs, rfl, h1, h2⟩ := rdTup rd
      exact ⟨a, vs, rfl, h1, by rw [h2.length]; exact hl, α, st, env, _, env', st', rel, re, h2, h, k⟩
    · cases h
  · cases h)
end
/-! ### a clause's tests -/
section
variable {X : Cx}
def yesF : M Bool := fun _ st => some (true, st)
theorem dts_nil : PTs X [] (tDT X.K yesF) := ⟨fun pins s σ H Q I h => by
  obtain ⟨α, st, env, b, st', rel, re, h, k⟩ := h
  cases h
  exact pts_nil.run pins s σ H Q I (k H α (.refl rel))⟩
end
/-! ### [elt for tg in iter if ..] -/
def lcL (src : Src) (g : GM) (tt : M Bool) (te : M D) (n : Nat) (env : Env) : Nat → Nat → Sto → Option Sto
  | 0, i, st => match nextD src i st with
    | some none => some st
    | _ => none
  | k + 1, i, st => match nextD src i st with
    | some (some d) => match g d env st with
      | some (e1, s1) => match tt e1 s1 with
        | some (true, s2) => match te e1 s2 with
          | some (y, s3) => match s3.get n with
            | some (.lst acc) => if acc.length < SZ then lcL src g tt te n env k (i + 1) (s3.set n (.lst (acc ++ [y]))) else none
            | _ => none
          | none => none
        | some (false, s2) => lcL src g tt te n env k (i + 1) s2
        | none => none
      | none => none
    | _ => none
def lcF (it : Env → Sto → Option (Src × Sto)) (g : GM) (tt : M Bool) (te : M D) (vs : List Nat) : M D := fun env st => (it env st).bind fun p => (countD p.1 p.2).bind fun k =>
  (lcL p.1 g tt te p.2.size (wipeE env vs) k 0 (p.2.push (.lst []))).map fun s => (.ref p.2.size, s)
section
variable {X : Cx}
theorem lc_ok {K : PySem.W.Frag} {fi : Env → Sto → Option (Src × Sto)} {gg : GM} {tt : M Bool} {fe : M D} {vs : List Nat} : ∀ σ H Q, tD K (lcF fi gg tt fe vs) σ H Q → tLc (tDI K fi) (tDGw K vs gg) (tDT K tt) (tD K fe) vs σ H Q := by
  rintro σ H Q ⟨α, st, env, r, st', rel, re, h, k⟩
  obtain ⟨⟨src, s1⟩, hd, h⟩ := bindS h
  obtain ⟨n, hn, h⟩ := bindS h
  obtain ⟨s2, hl, h⟩ := mapS h
  cases h
  refine ⟨α, st, env, src, s1, rel, re, hd, fun H1 α1 J S1 hJ => fun D hD => ?_⟩
  have S2 : Step K H1 α1 s1.size (upd H1 D (.lst [])) (addr α1 s1.size D) (s1.push (.lst [])) := newL (vs := []) S1.rel .nil hD
  refine ⟨fun i m H => ∃ α s, Rel K H α s ∧ RE K H α s.size (wipe σ vs) (wipeE env vs) ∧ SrcOk K H α s.size src J ∧ α s1.size = D ∧ s1.size < s.size ∧ lcL src gg tt fe s1.size (wipeE env vs) m i s = some st' ∧
      (∀ H' α', Step K H α s.size H' α' st' → Q (.ref D) H'),
    ⟨n, addr α1 s1.size D, s1.push (.lst []), S2.rel, (RE.wipe (re.step (S1.trans S2)) vs), hJ.step S2, addr_new, by rw [Sto.size_push]; omega, hl, fun H' α' S' => k H' α' _ (S1.trans (S2.trans S')) ?_⟩, ?_⟩
  · have := S'.agree s1.size (by rw [Sto.size_push]; omega)
    have hle := S'.le
    unfold RD
    rw [Sto.size_push] at hle
    have hle : s1.size + 1 ≤ st'.size := hle
    exact ⟨hle, by rw [this, addr_new]⟩
  rintro i m H2 ⟨α2, s2, rel2, re2, hJ2, hD2, hlt2, h2, k2⟩
  have hJ3 := hJ2 H2 α2 s2 (.refl rel2) i
  cases m with
  | zero =>
    unfold lcL at h2
    split at h2
    · rename_i e
      cases h2
      exact .inl ⟨hJ3.2 e, k2 H2 α2 (.refl rel2)⟩
    · cases h2
  | succ m =>
    unfold lcL at h2
    split at h2
    · rename_i d e
      obtain ⟨go, yl⟩ := hJ3.1 d e
      split at h2
      · rename_i e3 s3 eg
        refine .inr ⟨go, fun H => ∃ α s, Rel K H α s ∧ RE K H α s.size (wipe σ vs) (wipeE env vs) ∧ SrcOk K H α s.size src J ∧ α s1.size = D ∧ s1.size < s.size ∧ lcL src gg tt fe s1.size (wipeE env vs) m (i + 1) s = some st' ∧
            (∀ H' α', Step K H α s.size H' α' st' → Q (.ref D) H'),
          fun H' z => ⟨m, Nat.lt_succ_self _, z⟩, fun x H4 y => ?_⟩
        obtain ⟨S4, rx⟩ := yl x H4 y
        refine ⟨α2, s2, wipeE env vs, d, e3, s3, S4.rel, re2.step S4, rx, eg, fun H5 α5 σ5 S5 re5 w5 => ⟨w5.trans ?_, ?_⟩⟩
        · exact wipe_idem σ vs
        have S25 := S4.trans S5
        split at h2
        · rename_i s6 et
          refine ⟨α5, s3, e3, true, s6, S5.rel, re5, et, fun H6 α6 S6 => ?_⟩
          simp only [if_true]
          split at h2
          · rename_i y7 s7 ee
            refine ⟨α6, s6, e3, y7, s7, S6.rel, re5.step S6, ee, fun H7 α7 v7 S7 r7 => ?_⟩
            have S27 := S25.trans (S6.trans S7)
            have hD7 : α7 s1.size = D := (S27.agree _ hlt2).trans hD2
            split at h2
            · rename_i acc ea
              split at h2
              · rename_i hz
                obtain ⟨ws, h3, h4⟩ := S7.rel.lst ea
                rw [hD7] at h3
                refine ⟨ws, h3, by rw [h4.length]; exact hz, ?_⟩
                have S8 := setL S7.rel ea (h4.append (.cons r7 .nil))
                rw [hD7] at S8
                have S28 := S27.trans S8
                refine ⟨α7, _, S8.rel, re2.step S28, hJ2.step S28, hD7, Nat.lt_of_lt_of_le hlt2 S28.le, h2, fun H' α' S' => k2 H' α' (S28.trans S')⟩
              · cases h2
            · cases h2
          · cases h2
        · rename_i s6 et
          refine ⟨α5, s3, e3, false, s6, S5.rel, re5, et, fun H6 α6 S6 => ?_⟩
          have S26 := S25.trans S6
          exact ⟨α6, s6, S6.rel, re2.step S26, hJ2.step S26, (S26.agree _ hlt2).trans hD2, Nat.lt_of_lt_of_le hlt2 S26.le, h2, fun H' α' S' => k2 H' α' (S26.trans S')⟩
        · cases h2
      · cases h2
    · cases h2
theorem de_lc {elt tg iter : Expr} {ifs : List Expr} {scope : Scope} {own : List (Str × Nat)} {pos : Pos} {fi : Env → Sto → Option (Src × Sto)} {gg : GM} {ft : M Bool} {fe : M D} (hc : X.calm = true) (hN : X.N.Nodup) (hi : PI X tg iter (tDI X.K fi)) (ok : BlkOk X.N X.env.scope scope own)
    (hg : ∀ (s : Shared) (H : Hp) (C : Addr) (cl : List (Str × Addr)) (fp : List Addr), PG (X.blk s H scope (compEnvC scope cl C X.env) fp) tg (tDGw X.K (own.map (·.2)) gg)) (ht : ∀ (s : Shared) (H : Hp) (C : Addr) (cl : List (Str × Addr)) (fp : List Addr), PTs (X.blk s H scope (compEnvC scope cl C X.env) fp) ifs (tDT X.K ft))
    (he : ∀ (s : Shared) (H : Hp) (C : Addr) (cl : List (Str × Addr)) (fp : List Addr), PE (X.blk s H scope (compEnvC scope cl C X.env) fp) elt (tD X.K fe)) (hs : ∀ x, foldedSetIterable iter X.env x = pure x := by intro _; rfl) :
    PE X (.ListComp elt [⟨tg, iter, ifs, 0⟩] scope pos) (tD X.K (lcF fi gg ft fe (own.map (·.2)))) := weE (pe_lc hc hN hi ok hg ht he hs) lc_ok
theorem ds_setLc {i : Nat} {y : Str} {py : Pos} {elt tg iter : Expr} {ifs : List Expr} {scope : Scope} {own : List (Str × Nat)} {pos spos : Pos} {fi : Env → Sto → Option (Src × Sto)} {gg : GM} {ft : M Bool} {fe : M D} (hc : X.calm = true) (hN : X.N.Nodup) (hy : X.N[i]? = some y) (hyl : X.env.scope.names.lookup y = some .local)
    (hsw : swapsWith (.ListComp elt [⟨tg, iter, ifs, 0⟩] scope pos) (some (.Name y py)) spos.line X.env = pure true) (hi : PI X tg iter (tDI X.K fi)) (ok : BlkOk X.N X.env.scope scope own)
    (hg : ∀ (s : Shared) (H : Hp) (C : Addr) (cl : List (Str × Addr)) (fp : List Addr), PG (X.blk s H scope (compEnvC scope cl C X.env) fp) tg (tDGw X.K (own.map (·.2)) gg)) (ht : ∀ (s : Shared) (H : Hp) (C : Addr) (cl : List (Str × Addr)) (fp : List Addr), PTs (X.blk s H scope (compEnvC scope cl C X.env) fp) ifs (tDT X.K ft))
    (he : ∀ (s : Shared) (H : Hp) (C : Addr) (cl : List (Str × Addr)) (fp : List Addr), PE (X.blk s H scope (compEnvC scope cl C X.env) fp) elt (tD X.K fe)) (hs : ∀ x, foldedSetIterable iter X.env x = pure x := by intro _; rfl) :
    PS X (.Assign [.Name y py] (.ListComp elt [⟨tg, iter, ifs, 0⟩] scope pos) spos) (tDS X.K (setS i (lcF fi gg ft fe (own.map (·.2))))) := weS (ps_setLc hc hN hy hyl hsw hi ok hg ht he hs) (set_ok lc_ok)
/-! ### a dict that stays while one goes through it -/
def lockF (fd fe : M D) : M D := fun env st => match fd env st with
  | some (.ref n, _) => match st.get n with
    | some (.dic kvs) => match fe env (st.set n (.frd kvs)) with
      | some (d, s2) => match s2.get n with
        | some (.frd kvs2) => some (d, s2.set n (.dic kvs))
        | _ => none
      | none => none
    | _ => none
  | _ => none
theorem de_lock {e : Expr} {fd fe : M D} (h : PE X e (tD X.K fe)) : PE X e (tD X.K (lockF fd fe)) := weE (pe_lock h) (by
  rintro σ H Q ⟨α, st, env, r, st', rel, re, h, k⟩
  unfold lockF at h
  split at h
  · rename_i n s0 hf
    split at h
    · rename_i kvs e
      split at h
      · rename_i d s2 he
        split at h
        · rename_i kvs2 e2
          cases h
          obtain ⟨vs, h1, h2⟩ := rel.dic e
          refine ⟨α n, .dK vs, h1, trivial, fun od => ?_⟩
          have fr : Fr H (α n) := .mut (by rw [h1]; trivial)
          have S1 : Step X.K H α st.size (upd H (α n) (.frz od (.dK vs))) α (st.set n (.frd kvs)) := rel.write e rfl rfl fr ⟨od, vs, upd_same, RKV.mono (ext_upd fr) (fun _ _ => rfl) (Nat.le_refl _) _ _ h2⟩
          refine ⟨α, _, env, r, s2, S1.rel, re.step S1, he, fun H2 α2 v S2 rv => ?_⟩
          have hn : n < st.size := Sto.get_lt e
          have hz : H2 (α n) = some (.frz od (.dK vs)) := S2.ext.frz _ _ _ upd_same
          refine ⟨hz, ?_⟩
          have hs1 : (st.set n (.frd kvs)).size = st.size := Sto.size_set _ _ _
          have ha : α2 n = α n := S2.agree n (by rw [hs1]; exact hn)
          have hle : st.size ≤ s2.size := by have := S2.le; rw [hs1] at this; exact this
          -- tuples that are there stay, and what is frozen beside it
          have tu : ∀ a xs, SqT X.K H2 a xs → SqT X.K (upd H2 (α n) (.dK vs)) a xs := fun a xs q => by
            rcases q with (q | ⟨ob, q⟩) | q
            · refine .inl (.inl ?_)
              rw [upd_ne]
              · exact q
              · rintro rfl; rw [hz] at q; cases q
            · refine .inl (.inr ⟨ob, ?_⟩)
              rw [upd_ne]
              · exact q
              · rintro rfl; rw [hz] at q; cases q
            · exact .inr q
          have sq : ∀ a xs, SqF X.K H2 a xs → SqF X.K (upd H2 (α n) (.dK vs)) a xs := fun a xs q => by
            rcases q with ⟨ob, q⟩ | q
            · refine .inl ⟨ob, ?_⟩
              rw [upd_ne]
              · exact q
              · rintro rfl; rw [hz] at q; cases q
            · exact .inr q
          have kv := rkvT tu (Nat.le_refl s2.size) (RKV.mono S2.ext S2.agree S2.le _ _ (RKV.mono S1.ext S1.agree S1.le _ _ h2))
          have S3 : Step X.K H α st.size (upd H2 (α n) (.dK vs)) α2 (s2.set n (.dic kvs)) := by
            refine ⟨⟨fun a xs q => tu a xs (S2.ext.tup _ _ (S1.ext.tup _ _ q)), fun a o x q => ?_⟩, fun i hi => S2.agree i (by rw [hs1]; exact hi), by rw [Sto.size_set]; exact hle, ?_⟩
            · have := S2.ext.frz _ _ _ (S1.ext.frz _ _ _ q)
              rw [upd_ne]
              · exact this
              · rintro rfl; rw [h1] at q; cases q
            · have hn2 : n < s2.size := Sto.get_lt e2
              refine ⟨fun i u ei => ?_, fun i j u w ei ej hu hw q => ?_⟩
              · rw [Sto.size_set]
                by_cases hi : i = n
                · subst hi
                  rw [Sto.get_set_same hn2] at ei
                  cases ei
                  exact ⟨vs, by rw [ha]; exact upd_same, kv⟩
                · rw [Sto.get_set_ne hi] at ei
                  have hne : u.own = true → α2 i ≠ α n := fun hu z => hi (S2.rel.inj i n u _ ei e2 hu rfl (z.trans ha.symm))
                  have ro := S2.rel.obj i u ei
                  cases u with
                  | lst xs => obtain ⟨ws, q1, q2⟩ := ro; exact ⟨ws, by rw [upd_ne (hne rfl)]; exact q1, rdsT tu (Nat.le_refl _) q2⟩
                  | frl xs => obtain ⟨ws, q1, q2⟩ := ro; exact ⟨ws, sq _ _ q1, rdsT tu (Nat.le_refl _) q2⟩
                  | dic xs => obtain ⟨ws, q1, q2⟩ := ro; exact ⟨ws, by rw [upd_ne (hne rfl)]; exact q1, rkvT tu (Nat.le_refl _) q2⟩
                  | frd xs => obtain ⟨ob, ws, q1, q2⟩ := ro; exact ⟨ob, ws, by rw [upd_ne (hne rfl)]; exact q1, rkvT tu (Nat.le_refl _) q2⟩
              · by_cases hi : i = n
                · by_cases hj : j = n
                  · rw [hi, hj]
                  · subst hi
                    rw [Sto.get_set_ne hj] at ej
                    exact S2.rel.inj i j _ w e2 ej rfl hw q
                · rw [Sto.get_set_ne hi] at ei
                  by_cases hj : j = n
                  · subst hj
                    exact S2.rel.inj i j u _ ei e2 hu rfl q
                  · rw [Sto.get_set_ne hj] at ej
                    exact S2.rel.inj i j u w ei ej hu hw q
          refine k _ α2 v S3 ?_
          rw [Sto.size_set]
          exact rdT tu (Nat.le_refl _) rv
        · cases h
      · cases h
    · cases h
  · cases h)
end
end Dn
/-! list(zip(a, b)). -/
namespace Dn
open PySem PySem.Spec PyProof.Rows L2
open PySem.W (KdxIt kdx_alive)
section
variable {prog : Program} {w : World} {A : Around} {E : Value → Shared → Prop} {s : Shared} {z TI TO T i1 i2 : Addr} {fp1 fp2 : List Addr} {n1 n2 i : Nat} {P1 P2 : Nat → Value → Prop} {St1 St2 : Nat → Heap → Prop} {f : Bool} {oT : Obj}
theorem zipH_next_item {Q : Value → Shared → Prop} (S : ZipSep2 z TI TO i1 i2 fp1 fp2) (D1 : Draws prog w A i1 fp1 n1 P1 St1) (D2 : Draws prog w A i2 fp2 n2 P2 St2)
    (hz : IsZipHeld s.heap z TI TO T f) (hT : s.heap.get? T = some oT) (hTI : IsTupOf2 s.heap TI (.ref i1) (.ref i2)) (st1 : St1 i s.heap) (st2 : St2 i s.heap) (hlt1 : i < n1) (hlt2 : i < n2)
    (hQ : ∀ x1 x2 h' tk, P1 i x1 → P2 i x2 → IsZipHeld h' z TI TO T true → St1 (i + 1) h' → St2 (i + 1) h' → IsTupOf2 h' s.heap.objs.size x1 x2 → h'.objs.size = s.heap.objs.size + 1 →
      (∀ c o, c ≠ z → c ≠ i1 → c ≠ i2 → s.heap.get? c = some o → h'.get? c = some o) → Q (.ref s.heap.objs.size) { s with heap := h', toks := tk }) :
    wpAny (model prog w) A (Builtin.«zip.__next__» ⟨[.ref z], []⟩) (fun fin s' => ∃ v, fin = .done (.ret v) ∧ Q v s') E s := by
  obtain ⟨hp, g, d, tk0, os⟩ := s
  show wpAny _ _ (field (.ref z) 2 >>= _) _ _ _
  refine wpAny_bind (wpAny_field hz rfl (x := .bool false) rfl ?_)
  show wpAny _ _ (field (.ref z) 3 >>= _) _ _ _
  refine wpAny_bind (wpAny_field hz rfl (x := .ref TI) rfl ?_)
  refine wpAny_bind (wpAny_seqItems hTI rfl ?_)
  show wpAny _ _ (Builtin.SmallTypes.ownedTupleIsFree (.ref z) >>= _) _ _ _
  refine wpAny_bind (wpAny_tupleHeld_zip hz hT fun g0 hz0 hs0 => ?_)
  replace hs0 : Heap.SameBut z hp g0 := hs0
  simp only [Bool.false_eq_true, if_false]
  refine wpAny_bind ?_
  rw [← Array.forIn_toList]
  simp only [List.forIn_cons, List.forIn_nil]
  refine wpAny_bind (wpAny_bind (wpAny_holding ?_))
  show wpAny _ _ (Builtin.SmallTypes.nextOf (.ref i1) >>= _) _ _ ⟨g0, g, d, tk0, os⟩
  refine wpAny_bind (D1.item i _ _ _ hlt1 (D1.over st1 hs0 S.zf1) fun x1 p1 tk1 hx1 sn1 hp1 => wpAny_pure ?_)
  replace hp1 : Heap.SameBut i1 g0 p1 := hp1
  refine wpAny_pure ?_
  refine wpAny_bind (wpAny_bind (wpAny_holding ?_))
  show wpAny _ _ (Builtin.SmallTypes.nextOf (.ref i2) >>= _) _ _ ⟨p1, g, d, tk1, os⟩
  refine wpAny_bind (D2.item i _ _ _ hlt2 (D2.over (D2.over st2 hs0 S.zf2) hp1 S.sep1_2) fun x2 p2 tk2 hx2 sn2 hp2 => wpAny_pure ?_)
  replace hp2 : Heap.SameBut i2 p1 p2 := hp2
  refine wpAny_pure (wpAny_pure ?_)
  show wpAny _ _ (newTuple [x1, x2] >>= _) _ _ _
  refine wpAny_bind (wpAny_newTuple ?_)
  have hsz : p2.objs.size = hp.objs.size := by rw [hp2.1, hp1.1, hs0.1]
  have hz₃ : IsZipHeld p2 z TI TO T true := hp2.extBut _ _ S.zi2 (hp1.extBut _ _ S.zi1 hz0)
  have hk : ∀ c o, c ≠ z → c ≠ i1 → c ≠ i2 → hp.get? c = some o → p2.get? c = some o := fun c o c1 c2 c3 e => hp2.extBut _ _ c3 (hp1.extBut _ _ c2 (hs0.extBut _ _ c1 e))
  have hj1 : St1 (i + 1) p2 := D1.over sn1 hp2 S.sep2_1
  refine wpAny_pure ⟨_, rfl, ?_⟩
  show Q (.ref p2.objs.size) ⟨p2.push { cls := .type "tuple", data := .seq #[x1, x2] }, g, d, tk2, os⟩
  have hq : IsTupOf2 (p2.push { cls := .type "tuple", data := .seq #[x1, x2] }) p2.objs.size x1 x2 := Heap.get?_push_size _ rfl
  have hz4 : (p2.push { cls := .type "tuple", data := .seq #[x1, x2] }).objs.size = p2.objs.size + 1 := Heap.size_push ..
  rw [hsz] at hq hz4 ⊢
  exact hQ x1 x2 _ tk2 hx1 hx2 (Heap.get?_push_of_some _ hz₃) (D1.frame _ _ _ hj1 fun b hb o e => Heap.get?_push_of_some _ e) (D2.frame _ _ _ sn2 fun b hb o e => Heap.get?_push_of_some _ e) hq hz4 fun c o c1 c2 c3 e => Heap.get?_push_of_some _ (hk c o c1 c2 c3 e)
theorem zipH_next_end {Q : Fin → Shared → Prop} (S : ZipSep2 z TI TO i1 i2 fp1 fp2) (D1 : Draws prog w A i1 fp1 n1 P1 St1) (D2 : Draws prog w A i2 fp2 n2 P2 St2)
    (hz : IsZipHeld s.heap z TI TO T f) (hT : s.heap.get? T = some oT) (hTI : IsTupOf2 s.heap TI (.ref i1) (.ref i2)) (st1 : St1 i s.heap) (st2 : St2 i s.heap) (hle1 : i ≤ n1) (hle2 : i ≤ n2) (hend : i = n1 ∨ i = n2)
    (hE : ∀ h' tk e, (∀ c o, c ≠ z → c ≠ i1 → c ≠ i2 → s.heap.get? c = some o → h'.get? c = some o) → (∃ o, h'.get? e = some o ∧ o.cls = .type "StopIteration") → E (.ref e) { s with heap := h', toks := tk }) :
    wpAny (model prog w) A (Builtin.«zip.__next__» ⟨[.ref z], []⟩) Q E s := by
  obtain ⟨hp, g, d, tk0, os⟩ := s
  show wpAny _ _ (field (.ref z) 2 >>= _) _ _ _
  refine wpAny_bind (wpAny_field hz rfl (x := .bool false) rfl ?_)
  show wpAny _ _ (field (.ref z) 3 >>= _) _ _ _
  refine wpAny_bind (wpAny_field hz rfl (x := .ref TI) rfl ?_)
  refine wpAny_bind (wpAny_seqItems hTI rfl ?_)
  show wpAny _ _ (Builtin.SmallTypes.ownedTupleIsFree (.ref z) >>= _) _ _ _
  refine wpAny_bind (wpAny_tupleHeld_zip hz hT fun g0 hz0 hs0 => ?_)
  replace hs0 : Heap.SameBut z hp g0 := hs0
  simp only [Bool.false_eq_true, if_false]
  refine wpAny_bind ?_
  rw [← Array.forIn_toList]
  simp only [List.forIn_cons, List.forIn_nil]
  refine wpAny_bind (wpAny_bind (wpAny_holding ?_))
  show wpAny _ _ (Builtin.SmallTypes.nextOf (.ref i1) >>= _) _ _ ⟨g0, g, d, tk0, os⟩
  by_cases hlt1 : i < n1
  · refine wpAny_bind (D1.item i _ _ _ hlt1 (D1.over st1 hs0 S.zf1) fun x1 p1 tk1 hx1 sn1 hp1 => wpAny_pure ?_)
    replace hp1 : Heap.SameBut i1 g0 p1 := hp1
    refine wpAny_pure ?_
    have hi2 : i = n2 := by omega
    refine wpAny_bind (wpAny_bind (wpAny_holding ?_))
    show wpAny _ _ (Builtin.SmallTypes.nextOf (.ref i2) >>= _) _ _ ⟨p1, g, d, tk1, os⟩
    refine wpAny_bind (D2.done ⟨p1, g, d, tk1, os⟩ _ _ (by rw [← hi2]; exact D2.over (D2.over st2 hs0 S.zf2) hp1 S.sep1_2) fun q e hq he => ?_)
    replace hq : Heap.ExtBut i2 p1 q := hq
    exact hE q tk1 e (fun c o cz c1 c2 x => hq _ _ c2 (hp1.extBut _ _ c1 (hs0.extBut _ _ cz x))) he
  · have hi1 : i = n1 := by omega
    refine wpAny_bind (D1.done ⟨g0, g, d, tk0, os⟩ _ _ (by rw [← hi1]; exact D1.over st1 hs0 S.zf1) fun q e hq he => ?_)
    replace hq : Heap.ExtBut i1 g0 q := hq
    exact hE q tk0 e (fun c o cz c1 c2 x => hq _ _ c1 (hs0.extBut _ _ cz x)) he
theorem pyNext_zipH_item {Q : Option Value → Shared → Prop} (S : ZipSep2 z TI TO i1 i2 fp1 fp2) (D1 : Draws prog w A.in1 i1 fp1 n1 P1 St1) (D2 : Draws prog w A.in1 i2 fp2 n2 P2 St2)
    (hz : IsZipHeld s.heap z TI TO T f) (hT : s.heap.get? T = some oT) (hTI : IsTupOf2 s.heap TI (.ref i1) (.ref i2)) (st1 : St1 i s.heap) (st2 : St2 i s.heap) (hlt1 : i < n1) (hlt2 : i < n2)
    (hQ : ∀ x1 x2 h' tk, P1 i x1 → P2 i x2 → IsZipHeld h' z TI TO T true → St1 (i + 1) h' → St2 (i + 1) h' → IsTupOf2 h' s.heap.objs.size x1 x2 → h'.objs.size = s.heap.objs.size + 1 →
      (∀ c o, c ≠ z → c ≠ i1 → c ≠ i2 → s.heap.get? c = some o → h'.get? c = some o) → Q (some (.ref s.heap.objs.size)) { s with heap := h', toks := tk }) :
    wpAny (model prog w) A (pyNext (.ref z)) Q E s := by
  have hTy : s.TypeIs (.ref z) "zip" := ⟨_, hz, rfl⟩
  unfold pyNext
  exact wpAny_bind (wpAny_attempt (wpAny_callSpecial?_slot (name := Str.ofString "__next__") hTy F.slot_zip_next
    (wpAny_call_entry F.slot_zip_next hTy F.entry_zip_next
      (zipH_next_item S D1 D2 hz hT hTI st1 st2 hlt1 hlt2 fun x1 x2 h' tk y1 y2 b1 d1 d2 b5 b6 b7 => wpAny_pure (hQ x1 x2 h' tk y1 y2 b1 d1 d2 b5 b6 b7)) (F.args_zip_next_1 _))))
theorem pyNext_zipH_end {Q : Option Value → Shared → Prop} (S : ZipSep2 z TI TO i1 i2 fp1 fp2) (D1 : Draws prog w A.in1 i1 fp1 n1 P1 St1) (D2 : Draws prog w A.in1 i2 fp2 n2 P2 St2)
    (hz : IsZipHeld s.heap z TI TO T f) (hT : s.heap.get? T = some oT) (hTI : IsTupOf2 s.heap TI (.ref i1) (.ref i2)) (st1 : St1 i s.heap) (st2 : St2 i s.heap) (hle1 : i ≤ n1) (hle2 : i ≤ n2) (hend : i = n1 ∨ i = n2)
    (hQ : ∀ h' tk, (∀ c o, c ≠ z → c ≠ i1 → c ≠ i2 → s.heap.get? c = some o → h'.get? c = some o) → Q none { s with heap := h', toks := tk }) : wpAny (model prog w) A (pyNext (.ref z)) Q E s := by
  have hTy : s.TypeIs (.ref z) "zip" := ⟨_, hz, rfl⟩
  unfold pyNext
  refine wpAny_bind (wpAny_attempt (wpAny_callSpecial?_slot (name := Str.ofString "__next__") hTy F.slot_zip_next
    (wpAny_call_entry F.slot_zip_next hTy F.entry_zip_next (zipH_next_end S D1 D2 hz hT hTI st1 st2 hle1 hle2 hend fun h' tk e hk he => ?_) (F.args_zip_next_1 _))))
  obtain ⟨o, ho, hc⟩ := he
  refine wpAny_bind (wpAny_isInstance (T := "StopIteration") (b := true) ⟨o, ho, hc⟩ isSubtype_stop ?_)
  exact wpAny_pure (hQ _ _ hk)
end
/-- pairs laid as new tuples, one by one -/
def tups : List (V × V) → List V → Hp → (List V → Hp → Prop) → Prop
  | [], acc, H, Q => Q acc H
  | (x, y) :: r, acc, H, Q => ∀ T, H T = none → tups r (acc ++ [.ref T]) (upd H T (.tup [x, y])) Q
section
variable {X : Cx} {A : Around} {pins : List (Addr × Obj)} {σ : L2.St} {z TI TO i1 i2 : Addr} {fp1 fp2 : List Addr} {n1 n2 : Nat} {St1 St2 : Nat → Heap → Prop}
/-- what stands between two turns -/
structure ZL (X : Cx) (z TI TO i1 i2 S : Addr) (St1 St2 : Nat → Heap → Prop) (i : Nat) (h : Heap) : Prop where
  ti : IsTupOf2 h TI (.ref i1) (.ref i2)
  to : ∃ a b, IsTupOf2 h TO a b
  s1 : St1 i h
  s2 : St2 i h
  z : (IsZip h z TI TO .none) ∨ ∃ T f oT, IsZipHeld h z TI TO T f ∧ h.get? T = some oT ∧ T ≠ z ∧ T ≠ i1 ∧ T ≠ i2 ∧ T ≠ S
theorem zl_loop {R : Result → Shared → Prop} {S : Addr} {ps : List (V × V)} {Qf : List V → Hp → Prop} {res : Value} {as bs : List V} {its1 its2 : List Value} (S2 : ZipSep2 z TI TO i1 i2 fp1 fp2) (D1 : Draws X.prog X.w A.in1.in1 i1 fp1 its1.length (fun i v => its1[i]? = some v) St1) (D2 : Draws X.prog X.w A.in1.in1 i2 fp2 its2.length (fun i v => its2[i]? = some v) St2)
    (hr1 : Vals as its1) (hr2 : Vals bs its2) (hps : ps = as.zip bs) (hn : ps.length ≤ sizeLine) (hSf1 : S ∉ fp1) (hSf2 : S ∉ fp2) (hS : S ≠ z ∧ S ≠ TI ∧ S ≠ TO ∧ S ≠ i1 ∧ S ≠ i2) :
    ∀ (k i : Nat) (s : Shared) (H : Hp) (acc : Array Value) (vs : List V) (c : Nat), ps.length - i = k → i ≤ ps.length → Inv X pins σ H s → ZL X z TI TO i1 i2 S St1 St2 i s.heap → (∀ b ∈ [z, TI, TO, i1, i2, S], FpOk X pins H b ∧ ∃ o, s.heap.get? b = some o) →
    s.heap.get? S = some { cls := .type "list", dict := none, data := .seq acc c, slots := #[] } → Vals vs acc.toList → acc.size = i → tups (ps.drop i) vs H Qf →
    (∀ s' H' acc' vs' c', Inv X pins σ H' s' → FpOk X pins H' S → s'.heap.get? S = some { cls := .type "list", dict := none, data := .seq acc' c', slots := #[] } → Vals vs' acc'.toList → vs'.length ≤ sizeLine → Qf vs' H' → R (.ok (.ret res)) s') →
    codeAny (model X.prog X.w) A (.builtin "list.extend.loop" ⟨[.ref S, .ref z, res], []⟩) R s := by
  obtain ⟨Sz, STI, STO, Si1, Si2⟩ := hS
  have hl1 : as.length = its1.length := hr1.length
  have hl2 : bs.length = its2.length := hr2.length
  have hpl : ps.length = min its1.length its2.length := by rw [hps, List.length_zip, hl1, hl2]
  intro k
  induction k with
  | zero =>
    intro i s H acc vs c hk hi I st fpo hSl hv ha ht hR
    have hin : i = ps.length := by omega
    have hend : i = its1.length ∨ i = its2.length := by omega
    refine codeAny_builtin F.entry_extend_loop ?_
    rw [Around.under_plainId F.plain_extend_loop _]
    show wpAny _ A.in1 (pyNext (.ref z) >>= _) _ _ s
    have fin : ∀ h' tk, (∀ c o, c ≠ z → c ≠ TO → c ≠ i1 → c ≠ i2 → s.heap.get? c = some o → h'.get? c = some o) → R (.ok (.ret res)) { s with heap := h', toks := tk } := fun h' tk hk' => by
      have I' : Inv X pins σ H { s with heap := h', toks := tk } := I.turnedL (ch := [z, TO, i1, i2]) (fun b o hb e => hk' b o (fun q => hb (by simp [q])) (fun q => hb (by simp [q])) (fun q => hb (by simp [q])) (fun q => hb (by simp [q])) e)
        (fun b hb => (fpo b (by simp only [List.mem_cons, List.not_mem_nil, or_false] at hb ⊢; rcases hb with q | q | q | q <;> simp [q])).1)
      rw [hin, List.drop_length] at ht
      refine hR _ H acc vs c I' (fpo S (by simp)).1 (hk' S _ Sz STO Si1 Si2 hSl) hv ?_ ht
      rw [hv.length, Array.length_toList, ha, hin]; exact hn
    rcases st.z with hz | ⟨T, f, oT, hz, hT, r1, r2, r3, r4⟩
    · obtain ⟨a, b, hto⟩ := st.to
      exact wpAny_bind (wpAny_pyNext_zipD2_end S2 D1 D2 hz st.ti hto st.s1 st.s2 (by omega) (by omega) hend fun h' tk hk' => wpAny_pure (fin h' tk hk'))
    · exact wpAny_bind (pyNext_zipH_end S2 D1 D2 hz hT st.ti st.s1 st.s2 (by omega) (by omega) hend fun h' tk hk' => wpAny_pure (fin h' tk fun c o c1 _ c3 c4 e => hk' c o c1 c3 c4 e))
  | succ k ih =>
    intro i s H acc vs c hk hi I st fpo hSl hv ha ht hR
    have hlt : i < ps.length := by omega
    refine codeAny_builtin F.entry_extend_loop ?_
    rw [Around.under_plainId F.plain_extend_loop _]
    show wpAny _ A.in1 (pyNext (.ref z) >>= _) _ _ s
    have hlt1 : i < its1.length := by omega
    have hlt2 : i < its2.length := by omega
    obtain ⟨x, hx⟩ : ∃ x, as[i]? = some x := ⟨as[i]'(by omega), List.getElem?_eq_getElem _⟩
    obtain ⟨y, hy⟩ : ∃ y, bs[i]? = some y := ⟨bs[i]'(by omega), List.getElem?_eq_getElem _⟩
    have hd : ps.drop i = (x, y) :: ps.drop (i + 1) := by
      have hg : ps[i]? = some (x, y) := by rw [hps, List.getElem?_zip_eq_some]; exact ⟨hx, hy⟩
      obtain ⟨hl, hg⟩ := List.getElem?_eq_some_iff.mp hg
      rw [List.drop_eq_getElem_cons hl, hg]
    rw [hd] at ht
    obtain ⟨u1, hu1, ru1⟩ := hr1.get hx
    obtain ⟨u2, hu2, ru2⟩ := hr2.get hy
    have fresh : ∀ b ∈ [z, TI, TO, i1, i2, S], s.heap.objs.size ≠ b := fun b hb e => by
      obtain ⟨_, o, ho⟩ := fpo b hb
      exact Nat.ne_of_gt (Heap.lt_size ho) e
    -- the turn's end
    have fin : ∀ x1 x2 h' tk T f, its1[i]? = some x1 → its2[i]? = some x2 → (IsZipHeld h' z TI TO T f ∧ ∃ oT, h'.get? T = some oT) → T ≠ z → T ≠ i1 → T ≠ i2 → T ≠ S → St1 (i + 1) h' → St2 (i + 1) h' → IsTupOf2 h' s.heap.objs.size x1 x2 → h'.objs.size = s.heap.objs.size + 1 → (∃ a b, IsTupOf2 h' TO a b) →
        (∀ c o, c ≠ z → c ≠ TO → c ≠ i1 → c ≠ i2 → s.heap.get? c = some o → h'.get? c = some o) →
        wpAny (model X.prog X.w) A.in1 (updateSeq S (·.push (.ref s.heap.objs.size)) >>= fun _ => pure (Fin.again (Code.builtin "list.extend.loop" ⟨[.ref S, .ref z, res], []⟩))) (fun fin s' => match fin with | .done f => R (.ok f) s' | .again c' => c'.quiet = true ∧ codeAny (model X.prog X.w) A c' R s') (fun e s' => R (.error e) s') { s with heap := h', toks := tk } := by
      intro x1 x2 h' tk T f e1 e2 hz' r1 r2 r3 r4 s1' s2' hT' hsz' hto' hk'
      rw [hu1] at e1
      rw [hu2] at e2
      cases e1
      cases e2
      have hS' := hk' S _ Sz STO Si1 Si2 hSl
      have new : ObjOk X.prog X.w (upd H s.heap.objs.size (.tup [x, y])) h' s.heap.objs.size (.tup [x, y]) :=
        ⟨by show 2 ≤ sizeLine; decide, [u1, u2], .cons ru1 (.cons ru2 .nil), ⟨_, hT', rfl, _, rfl⟩⟩
      have I1 : Inv X pins σ (upd H s.heap.objs.size (.tup [x, y])) { s with heap := h', toks := tk } :=
        I.turnedNew (t' := tk) (ch := [z, TO, i1, i2]) (fun c o hb q => hk' c o (fun q' => hb (by simp [q'])) (fun q' => hb (by simp [q'])) (fun q' => hb (by simp [q'])) (fun q' => hb (by simp [q'])) q)
          (fun b hb => (fpo b (by simp only [List.mem_cons, List.not_mem_nil, or_false] at hb ⊢; rcases hb with q | q | q | q <;> simp [q])).1) (Nat.le_refl _) new
      have fpo1 : ∀ b ∈ [z, TI, TO, i1, i2, S], FpOk X pins (upd H s.heap.objs.size (.tup [x, y])) b := fun b hb => by
        obtain ⟨⟨f0, f1⟩, _⟩ := fpo b hb
        exact ⟨by rw [upd_ne (Ne.symm (fresh b hb))]; exact f0, f1⟩
      refine wpAny_bind (wpAny_updateSeq hS' rfl (wpAny_pure ⟨plainId_quiet F.plain_extend_loop _, ?_⟩) (by rw [ha]; omega) (by show (acc.push _).size ≤ sizeLine + 1; rw [Array.size_push, ha]; omega))
      have oth : ∀ b o, b ≠ S → h'.get? b = some o → (h'.update S (Obj.mapSeq (·.push (.ref s.heap.objs.size)))).get? b = some o := fun b o hb e => (Heap.get?_update_other _ _ (Ne.symm hb)).trans e
      have I2 : Inv X pins σ (upd H s.heap.objs.size (.tup [x, y])) { s with heap := h'.update S (Obj.mapSeq (·.push (.ref s.heap.objs.size))), toks := tk } :=
        Inv.turnedL (s := { s with heap := h', toks := tk }) (t' := tk) (ch := [S]) I1 (fun b o hb e => oth b o (fun q => hb (by simp [q])) e) (fun b hb => fpo1 b (by simp only [List.mem_cons, List.not_mem_nil, or_false] at hb ⊢; simp [hb]))
      have mem : ∀ b ∈ [z, TI, TO, i1, i2], b ≠ S := fun b hb => by
        simp only [List.mem_cons, List.not_mem_nil, or_false] at hb
        rcases hb with q | q | q | q | q <;> rw [q]
        · exact Ne.symm Sz
        · exact Ne.symm STI
        · exact Ne.symm STO
        · exact Ne.symm Si1
        · exact Ne.symm Si2
      obtain ⟨hz', oT, hoT⟩ := hz'
      obtain ⟨a, b, hto'⟩ := hto'
      have hTI' : IsTupOf2 h' TI (.ref i1) (.ref i2) := hk' _ _ S2.TIz S2.TITO S2.TIi1 S2.TIi2 st.ti
      have hD1 : St1 (i + 1) (h'.update S (Obj.mapSeq (·.push (.ref s.heap.objs.size)))) := D1.frame _ _ _ s1' fun b hb o e => oth b o (fun q => hSf1 (q ▸ hb)) e
      have hD2 : St2 (i + 1) (h'.update S (Obj.mapSeq (·.push (.ref s.heap.objs.size)))) := D2.frame _ _ _ s2' fun b hb o e => oth b o (fun q => hSf2 (q ▸ hb)) e
      have hSu := Heap.get?_update_self (Obj.mapSeq (·.push (Value.ref s.heap.objs.size))) hS' rfl
      refine ih (i + 1) _ _ (acc.push (.ref s.heap.objs.size)) (vs ++ [.ref s.heap.objs.size]) _ (by omega) hlt I2 ⟨oth _ _ (mem _ (by simp)) hTI', ⟨a, b, oth _ _ (mem _ (by simp)) hto'⟩, hD1, hD2, .inr ⟨T, f, oT, oth _ _ (mem _ (by simp)) hz', oth _ _ r4 hoT, r1, r2, r3, r4⟩⟩ (fun b hb => ⟨fpo1 b hb, ?_⟩) hSu ?_ (by rw [Array.size_push, ha]) (ht _ (I.hok.fresh (Nat.le_refl _))) hR
      · by_cases hbS : b = S
        · rw [hbS]; exact ⟨_, hSu⟩
        · have hb' : b = z ∨ b = TI ∨ b = TO ∨ b = i1 ∨ b = i2 ∨ b = S := by simpa using hb
          rcases hb' with q | q | q | q | q | q
          · rw [q]; exact ⟨_, oth _ _ (mem _ (by simp)) hz'⟩
          · rw [q]; exact ⟨_, oth _ _ (mem _ (by simp)) hTI'⟩
          · rw [q]; exact ⟨_, oth _ _ (mem _ (by simp)) hto'⟩
          · rw [q]; exact D1.live _ _ hD1
          · rw [q]; exact D2.live _ _ hD2
          · exact absurd q hbS
      · rw [Array.toList_push]
        exact hv.append (.cons rfl .nil)
    rcases st.z with hz | ⟨T, f, oT, hz, hT, r1, r2, r3, r4⟩
    · obtain ⟨a, b, hto⟩ := st.to
      exact wpAny_bind (wpAny_pyNext_zipD2_item S2 D1 D2 hz st.ti hto st.s1 st.s2 hlt1 hlt2 fun x1 x2 h' tk p1 p2 b1 b2 d1 d2 b5 b6 b7 =>
        fin x1 x2 h' tk s.heap.objs.size false p1 p2 ⟨b1, _, b5⟩ (fresh _ (by simp)) (fresh _ (by simp)) (fresh _ (by simp)) (fresh _ (by simp)) d1 d2 b5 b6 ⟨_, _, b2⟩ b7)
    · obtain ⟨a, b, hto⟩ := st.to
      exact wpAny_bind (pyNext_zipH_item S2 D1 D2 hz hT st.ti st.s1 st.s2 hlt1 hlt2 fun x1 x2 h' tk p1 p2 b1 d1 d2 b5 b6 b7 =>
        fin x1 x2 h' tk T true p1 p2 ⟨b1, _, b7 T _ r1 r2 r3 hT⟩ r1 r2 r3 r4 d1 d2 b5 b6 ⟨a, b, b7 TO _ S2.TOz S2.Ti1 S2.Ti2 hto⟩ fun c o c1 _ c3 c4 e => b7 c o c1 c3 c4 e)
end
end Dn
/-! list(zip(a, b)), the call. -/
namespace Dn
open PySem PySem.Spec PyProof.Rows L2
theorem zip_no_len : typeLookup (.type "zip") "__len__" = pure none := by rw [typeLookup_type, builtinLookup_eq_fast]; kernel_rfl
theorem zip_no_hint : typeLookup (.type "zip") "__length_hint__" = pure none := by rw [typeLookup_type, builtinLookup_eq_fast]; kernel_rfl
section
variable {X : Cx} {A : Around} {pins : List (Addr × Obj)} {σ : L2.St} {z TI TO i1 i2 : Addr} {fp1 fp2 : List Addr} {n1 n2 : Nat} {St1 St2 : Nat → Heap → Prop}
/-- the things that a zip goes through: a list or a tuple -/
theorem side {l : Addr} {xs : List V} {H : Hp} {s : Shared} (I : Inv X pins σ H s) (h : SqL X.K H l xs ∨ SqT X.K H l xs) : ∃ (its : List Value) (o : Obj) (H0 : Heap → Prop) (St : Addr → Nat → Heap → Prop), Vals xs its ∧ Begins (.ref l) o H0 ∧ H0 s.heap ∧ l < s.heap.objs.size ∧
    (∀ A it, A.handled = none → l ≠ it → Draws X.prog X.w A it [it, l] its.length (fun i v => its[i]? = some v) (St it)) ∧ (∀ h' it, h'.get? it = some o → (∀ c o, s.heap.get? c = some o → h'.get? c = some o) → St it 0 h') := by
  rcases h with h | h
  · obtain ⟨its, rv, p, hz⟩ := I.list h
    have hp : s.heap.IsList l its.toArray := p.isList
    refine ⟨its, _, _, fun it i h => h.IsListIter it l i ∧ h.IsList l its.toArray, rv, begins_list l its.toArray, hp, p.lt, fun A it hh hne => ?_, fun h' it e k => ⟨⟨_, e, rfl, rfl⟩, hp.at fun o q => k _ o q⟩⟩
    have D := Draws.list (prog := X.prog) (w := X.w) hh it l hne its.toArray
    have e : (fun i v => its.toArray[i]? = some v) = (fun (i : Nat) (v : Value) => its[i]? = some v) := by funext i v; simp
    rw [e] at D
    exact D
  · obtain ⟨its, rv, p, hz⟩ := I.tuple h
    have hp : s.heap.IsTuple l its.toArray := p
    have hl : l < s.heap.objs.size := by obtain ⟨o, ho, _⟩ := id p; exact Heap.lt_size ho
    refine ⟨its, _, _, fun it i h => h.IsTupleIter it l i ∧ h.IsTuple l its.toArray, rv, begins_tuple l its.toArray, hp, hl, fun A it hh hne => ?_, fun h' it e k => ⟨⟨_, e, rfl, rfl⟩, hp.at fun o q => k _ o q⟩⟩
    have D := Draws.tuple (prog := X.prog) (w := X.w) hh it l hne its.toArray
    have e : (fun i v => its.toArray[i]? = some v) = (fun (i : Nat) (v : Value) => its[i]? = some v) := by funext i v; simp
    rw [e] at D
    exact D
theorem zl_init {R : Result → Shared → Prop} {S : Addr} {ps : List (V × V)} {Qf : List V → Hp → Prop} {as bs : List V} {its1 its2 : List Value} {s : Shared} {H : Hp} (S2 : ZipSep2 z TI TO i1 i2 fp1 fp2) (D1 : Draws X.prog X.w A.in1.in1 i1 fp1 its1.length (fun i v => its1[i]? = some v) St1) (D2 : Draws X.prog X.w A.in1.in1 i2 fp2 its2.length (fun i v => its2[i]? = some v) St2)
    (hr1 : Vals as its1) (hr2 : Vals bs its2) (hps : ps = as.zip bs) (hn : ps.length ≤ sizeLine) (hSf1 : S ∉ fp1) (hSf2 : S ∉ fp2) (hSn : S ≠ z ∧ S ≠ TI ∧ S ≠ TO ∧ S ≠ i1 ∧ S ≠ i2)
    (I : Inv X pins σ H s) (hz : IsZip s.heap z TI TO .none) (hTI : IsTupOf2 s.heap TI (.ref i1) (.ref i2)) (hTO : ∃ a b, IsTupOf2 s.heap TO a b) (st1 : St1 0 s.heap) (st2 : St2 0 s.heap) (fpo : ∀ b ∈ [z, TI, TO, i1, i2, S], FpOk X pins H b)
    (hS : s.heap.get? S = some { cls := .type "list", data := .seq #[] }) (ht : tups ps [] H Qf)
    (hR : ∀ s' H' acc' vs' c', Inv X pins σ H' s' → FpOk X pins H' S → s'.heap.get? S = some { cls := .type "list", dict := none, data := .seq acc' c', slots := #[] } → Vals vs' acc'.toList → vs'.length ≤ sizeLine → Qf vs' H' → R (.ok (.ret .none)) s') :
    wpAny (model X.prog X.w) A.in1 (Builtin.«list.__init__» ⟨[.ref S, .ref z], []⟩)
      (fun fin s' => match fin with | .done f => R (.ok f) s' | .again c' => c'.quiet = true ∧ codeAny (model X.prog X.w) A c' R s') (fun e s' => R (.error e) s') s := by
  obtain ⟨Sz, STI, STO, Si1, Si2⟩ := id hSn
  show wpAny _ A.in1 (do let old ← Builtin.List.listItems (.ref S); Builtin.List.listUpdate (.ref S) (fun _ => #[]); letGo old.toList.reverse; Builtin.List.listExtendWith (.ref S) (.ref z) .none) _ _ s
  refine wpAny_bind ?_
  unfold Builtin.List.listItems
  refine wpAny_bind (wpAny_seqItems hS rfl (wpAny_pure ?_))
  show wpAny _ A.in1 (updateSeq S (fun _ => #[]) >>= fun _ => letGo (#[] : Array Value).toList.reverse >>= fun _ => Builtin.List.listExtendWith (.ref S) (.ref z) .none) _ _ s
  refine wpAny_bind (wpAny_updateSeq hS rfl ?_)
  have hS₂ := Heap.get?_update_self (Obj.mapSeq (fun _ => (#[] : Array Value))) hS rfl
  have oth : ∀ b o, b ≠ S → s.heap.get? b = some o → (s.heap.update S (Obj.mapSeq (fun _ => (#[] : Array Value)))).get? b = some o :=
    fun b o hb e => (Heap.get?_update_other _ _ (Ne.symm hb)).trans e
  refine wpAny_bind (wpAny_letGo ?_)
  have hT : ({ s with heap := s.heap.update S (Obj.mapSeq (fun _ => (#[] : Array Value))) } : Shared).TypeIs (.ref z) "zip" := ⟨_, oth _ _ (Ne.symm Sz) hz, rfl⟩
  unfold Builtin.List.listExtendWith
  refine wpAny_bind (wpAny_typeOf hT ?_)
  have h1 : Builtin.List.listSameRef (.ref S) (.ref z) = false := by simp [Builtin.List.listSameRef, Sz]
  have h2 : (Value.type "zip" == Value.type "list") = false := by decide
  have h3 : (Value.type "zip" == Value.type "tuple") = false := by decide
  simp only [h1, h2, h3, Bool.or_false, Bool.false_eq_true, if_false]
  refine wpAny_bind (wpAny_pyIter_zip (oth _ _ (Ne.symm Sz) hz) ?_)
  refine wpAny_bind (wpAny_holding ?_)
  unfold Builtin.List.listLengthHint
  refine wpAny_bind (wpAny_specialOf hT zip_no_len ?_)
  show wpAny _ A.in1 (specialOf (Value.ref z) (Str.ofString "__length_hint__") >>= _) _ _ _
  refine wpAny_bind (wpAny_specialOf hT zip_no_hint ?_)
  refine wpAny_pure ?_
  show wpAny _ A.in1 (rule "list.extend.makes-room" >>= fun _ => Builtin.List.listTouch (.ref S) >>= fun _ =>
    again (.builtin "list.extend.loop" ⟨[.ref S, .ref z, .none], []⟩)) _ _ _
  refine wpAny_bind (wpAny_rule ?_)
  refine wpAny_bind ?_
  show wpAny _ A.in1 (updateSeq S (·.push .none) >>= fun _ => updateSeq S (·.pop)) _ _ _
  refine wpAny_bind (wpAny_updateSeq hS₂ rfl ?_)
  have hS₃ := Heap.get?_update_self (Obj.mapSeq (·.push Value.none)) hS₂ rfl
  refine wpAny_updateSeq (hz := by seq_fits) hS₃ rfl ?_
  have hS₄ := Heap.get?_update_self (Obj.mapSeq (·.pop)) hS₃ rfl
  have oth2 : ∀ b o, b ≠ S → s.heap.get? b = some o → (((s.heap.update S (Obj.mapSeq (fun _ => (#[] : Array Value)))).update S (Obj.mapSeq (·.push Value.none))).update S (Obj.mapSeq (·.pop))).get? b = some o :=
    fun b o hb e => (Heap.get?_update_other _ _ (Ne.symm hb)).trans ((Heap.get?_update_other _ _ (Ne.symm hb)).trans (oth b o hb e))
  obtain ⟨a, b, hTO⟩ := hTO
  have hD1 := D1.frame 0 _ (((s.heap.update S (Obj.mapSeq (fun _ => (#[] : Array Value)))).update S (Obj.mapSeq (·.push Value.none))).update S (Obj.mapSeq (·.pop))) st1 fun b hb o e => oth2 b o (fun q => hSf1 (q ▸ hb)) e
  have hD2 := D2.frame 0 _ (((s.heap.update S (Obj.mapSeq (fun _ => (#[] : Array Value)))).update S (Obj.mapSeq (·.push Value.none))).update S (Obj.mapSeq (·.pop))) st2 fun b hb o e => oth2 b o (fun q => hSf2 (q ▸ hb)) e
  refine wpAny_pure ⟨plainId_quiet F.plain_extend_loop _, zl_loop S2 D1 D2 hr1 hr2 hps hn hSf1 hSf2 hSn ps.length 0 _ H #[] [] _ (by omega) (Nat.zero_le _) (Inv.turnedL (s := s) (t' := s.toks) (ch := [S]) I (fun b o hb e => oth2 b o (fun q => hb (by simp [q])) e) (fun b hb => fpo b (by simp only [List.mem_cons, List.not_mem_nil, or_false] at hb ⊢; simp [hb])))
    ⟨oth2 _ _ (Ne.symm STI) hTI, ⟨a, b, oth2 _ _ (Ne.symm STO) hTO⟩, hD1, hD2, .inl (oth2 _ _ (Ne.symm Sz) hz)⟩ (fun b hb => ⟨fpo b hb, ?_⟩) hS₄ .nil rfl ht hR⟩
  have hb' : b = z ∨ b = TI ∨ b = TO ∨ b = i1 ∨ b = i2 ∨ b = S := by simpa using hb
  rcases hb' with q | q | q | q | q | q
  · rw [q]; exact ⟨_, oth2 _ _ (Ne.symm Sz) hz⟩
  · rw [q]; exact ⟨_, oth2 _ _ (Ne.symm STI) hTI⟩
  · rw [q]; exact ⟨_, oth2 _ _ (Ne.symm STO) hTO⟩
  · rw [q]; exact D1.live _ _ hD1
  · rw [q]; exact D2.live _ _ hD2
  · rw [q]; exact ⟨_, hS₄⟩
def tLZ (K : PySem.W.Frag) (ta : TA) : TE := fun σ H Q => ta σ H fun vs H1 => ∃ a b xs ys, vs = [.ref a, .ref b] ∧ (SqL K H1 a xs ∨ SqT K H1 a xs) ∧ (SqL K H1 b ys ∨ SqT K H1 b ys) ∧ (xs.zip ys).length ≤ sizeLine ∧
  tups (xs.zip ys) [] H1 fun ts H2 => ∀ p, H2 p = none → Q (.ref p) (upd H2 p (.lst ts))
theorem pe_listzip {e e2 : Expr} {ta : TA} {p p2 pos pos2 : Pos} (hc : X.calm = true) (hg : Gl X "list") (hm : X.mg "list" = none) (hg2 : Gl X "zip") (hm2 : X.mg "zip" = none) (ha : PA X [e, e2] ta)
    (hs : starEach [e, e2] X.env = (false, eval e X.env) :: starEach [e2] X.env := by rfl) (hpl : (backTo pos2 (starEach [e2] X.env)).any (·.1) = false := by rfl)
    (hs3 : starEach [Expr.Call (.Name "zip" p2) [e, e2] [] pos2] X.env = (false, eval (Expr.Call (.Name "zip" p2) [e, e2] [] pos2) X.env) :: starEach [] X.env := by rfl) :
    PE X (.Call (.Name "list" p) [.Call (.Name "zip" p2) [e, e2] [] pos2] [] pos) (tLZ X.K ta) := by
  refine ⟨fun pins s σ H Q I h => ?_⟩
  refine wpAny_Call_Name_kw (ld_blt I hg hm PyProof.Rows.boot_list ?_)
  refine PyProof.Rows.callWith_type1 ?_ hs3 rfl
  rw [hs3]
  show wpAny _ _ (spliced ((false, eval (Expr.Call (.Name "zip" p2) [e, e2] [] pos2) X.env) :: backTo pos (starEach [] X.env))) _ _ s
  refine Calls.spliced_cons ?_
  refine wpAny_Call_Name_kw (ld_blt I hg2 hm2 PyProof.Rows.boot_zip ?_)
  refine PyProof.Rows.callWith_type1 (thn (ha.run pos2 pins s σ H _ I h) fun us s1 ⟨vs, H1, I1, r1, q1⟩ => ?_) hs hpl
  obtain ⟨a, b, xs, ys, ex, hx, hy, hn, q1⟩ := q1
  subst ex
  cases r1 with
  | cons r rr =>
    cases rr with
    | cons r' rr =>
      cases rr
      cases r
      cases r'
      obtain ⟨its1, o1, H01, St1, rv1, B1, hb1, hl1, mk1, st1⟩ := side I1 hx
      obtain ⟨its2, o2, H02, St2, rv2, B2, hb2, hl2, mk2, st2⟩ := side I1 hy
      refine zip_begins2 B1 B2 hb1 hb2 fun h' hz hTI hTO g1 g2 hsz hk => ?_
      refine Calls.spliced_nil ?_
      have I2 : Inv X pins σ H1 { s1 with heap := h' } := I1.kept (t' := s1.toks) hk
      refine callType_codes (Q₁ := fun obj s₁ => obj = .ref h'.objs.size ∧ s₁ = { s1 with heap := h'.push { cls := .type "list", data := .seq #[] } }) PySem.F.called_list (PySem.F.typeCall_list_1 _) PySem.F.entry_list_init
        (code_list_new _ ⟨rfl, rfl⟩) fun obj s₁ h₁ => ?_
      obtain ⟨rfl, rfl⟩ := h₁
      have hS : (h'.push { cls := .type "list", data := .seq #[] }).get? h'.objs.size = some { cls := .type "list", data := .seq #[] } := Heap.get?_push_size _ rfl
      have up : ∀ {c o}, h'.get? c = some o → (h'.push { cls := .type "list", data := .seq #[] }).get? c = some o := fun e => Heap.get?_push_of_some _ e
      have I3 : Inv X pins σ H1 { s1 with heap := h'.push { cls := .type "list", data := .seq #[] } } := I1.kept (t' := s1.toks) fun c o e => up (hk c o e)
      have hS2 : h'.objs.size = s1.heap.objs.size + 5 := hsz
      refine ⟨⟨_, hS, rfl⟩, PySem.F.args_list_init_2 _ _, zl_init (A := X.A.in1) (S := h'.objs.size) (ps := xs.zip ys) (fp1 := [s1.heap.objs.size, a]) (fp2 := [s1.heap.objs.size + 1, b]) (zip_sep2 (N := s1.heap.objs.size) (fp1 := [a]) (fp2 := [b]) (by simp [hl1]) (by simp [hl2]))
        (mk1 _ _ (I1.ok.hd hc) (Nat.ne_of_lt hl1)) (mk2 _ _ (I1.ok.hd hc) (Nat.ne_of_lt (Nat.lt_succ_of_lt hl2))) rv1 rv2 rfl hn ?_ ?_ ?_ I3 (up hz) (up hTI) ⟨_, _, up hTO⟩ (st1 _ _ (up g1) fun c o e => up (hk c o e)) (st2 _ _ (up g2) fun c o e => up (hk c o e)) (fun b hb => ?_) hS q1 fun s' H' acc' vs' c' I' f' hS' hv hz' qf => ⟨rfl, ?_⟩⟩
      · rw [hS2]
        simp only [List.mem_cons, List.not_mem_nil, or_false, not_or]
        exact ⟨show (s1.heap.objs.size + 5 : Nat) ≠ s1.heap.objs.size by omega, Nat.ne_of_gt (Nat.lt_of_lt_of_le hl1 (Nat.le_add_right _ 5))⟩
      · rw [hS2]
        simp only [List.mem_cons, List.not_mem_nil, or_false, not_or]
        exact ⟨show (s1.heap.objs.size + 5 : Nat) ≠ s1.heap.objs.size + 1 by omega, Nat.ne_of_gt (Nat.lt_of_lt_of_le hl2 (Nat.le_add_right _ 5))⟩
      · rw [hS2]
        exact ⟨show (s1.heap.objs.size + 5 : Nat) ≠ s1.heap.objs.size + 4 by omega, show (s1.heap.objs.size + 5 : Nat) ≠ s1.heap.objs.size + 2 by omega, show (s1.heap.objs.size + 5 : Nat) ≠ s1.heap.objs.size + 3 by omega, show (s1.heap.objs.size + 5 : Nat) ≠ s1.heap.objs.size by omega, show (s1.heap.objs.size + 5 : Nat) ≠ s1.heap.objs.size + 1 by omega⟩
      · have hle : s1.heap.objs.size ≤ b := by
          rw [hS2] at hb
          have hb' : b = s1.heap.objs.size + 4 ∨ b = s1.heap.objs.size + 2 ∨ b = s1.heap.objs.size + 3 ∨ b = s1.heap.objs.size ∨ b = s1.heap.objs.size + 1 ∨ b = s1.heap.objs.size + 5 := by simpa using hb
          rcases hb' with q | q | q | q | q | q
          · rw [q]; exact Nat.le_add_right _ _
          · rw [q]; exact Nat.le_add_right _ _
          · rw [q]; exact Nat.le_add_right _ _
          · rw [q]; exact Nat.le_refl _
          · rw [q]; exact Nat.le_add_right _ _
          · rw [q]; exact Nat.le_add_right _ _
        exact I1.fpOk hle (I1.hok.fresh hle)
      · have I4 := I'.take (t' := s'.toks) (o := .lst vs') (fun c o _ e => e) f' ⟨hz', acc'.toList, c', hv, by simpa using hS'⟩
        exact ⟨.ref h'.objs.size, _, I4, rfl, qf _ f'.1⟩
end
end Dn
/-! list(zip(a, b)), sorted(set(t)), d != e, for k in d: by values. -/
namespace Dn
open PySem PySem.Spec PyProof.Rows L2
/-! ### list(zip(a, b)) -/
def seqD : D → Sto → Option (List D)
  | .tup xs, _ => some xs
  | .ref n, st => st.seq n
  | _, _ => none
theorem seqD_ok {K : PySem.W.Frag} {H : Hp} {α : Nat → Addr} {st : Sto} {d : D} {v : V} {xs : List D} (rel : Rel K H α st) (rd : RD K H α st.size d v) (h : seqD d st = some xs) : ∃ a vs, v = .ref a ∧ (SqL K H a vs ∨ SqT K H a vs) ∧ RDs K H α st.size xs vs := by
  cases d with
  | tup ys =>
    cases h
    obtain ⟨a, vs, rfl, h1, h2⟩ := rdTup rd
    exact ⟨a, vs, rfl, .inr h1, h2⟩
  | ref n =>
    obtain ⟨vs, h1, h2⟩ := rel.seq h
    exact ⟨_, vs, (rdRef rd).2, .inl h1, h2⟩
  | _ => cases h
def pairD (p : D × D) : D := .tup [p.1, p.2]
def zipLF (f : M (List D)) : M D := fun env st => (f env st).bind fun p => match p.1 with
  | [a, b] => (seqD a p.2).bind fun xs => (seqD b p.2).bind fun ys => if (xs.zip ys).length ≤ SZ then some (.ref p.2.size, p.2.push (.lst ((xs.zip ys).map pairD))) else none
  | _ => none
theorem tups_ok {K : PySem.W.Frag} {α : Nat → Addr} {st : Sto} {Q : List V → Hp → Prop} : ∀ (xs ys : List D) (vs ws : List V) (acc : List D) (us : List V) (H : Hp), Rel K H α st → RDs K H α st.size xs vs → RDs K H α st.size ys ws → RDs K H α st.size acc us →
    (∀ H' us', Step K H α st.size H' α st → RDs K H' α st.size (acc ++ (xs.zip ys).map pairD) us' → Q us' H') → tups (vs.zip ws) us H Q
  | [], ys, vs, ws, acc, us, H, rel, r1, r2, r3, k => by
    unfold RDs at r1
    subst r1
    show Q us H
    exact k H us (.refl rel) (by simpa using r3)
  | x :: xs, [], vs, ws, acc, us, H, rel, r1, r2, r3, k => by
    unfold RDs at r1 r2
    obtain ⟨v, vr, rfl, _, _⟩ := r1
    subst r2
    show Q us H
    exact k H us (.refl rel) (by simpa using r3)
  | x :: xs, y :: ys, vs, ws, acc, us, H, rel, r1, r2, r3, k => by
    unfold RDs at r1 r2
    obtain ⟨v, vr, rfl, a1, b1⟩ := r1
    obtain ⟨w, wr, rfl, a2, b2⟩ := r2
    show ∀ T, H T = none → tups (vr.zip wr) (us ++ [.ref T]) (upd H T (.tup [v, w])) Q
    intro T hT
    have S := rel.tup (vs := [v, w]) hT
    have rt : RD K (upd H T (.tup [v, w])) α st.size (pairD (x, y)) (.ref T) := rTup (.of upd_same) (.cons (a1.step S) (.cons (a2.step S) .nil))
    refine tups_ok xs ys vr wr (acc ++ [pairD (x, y)]) (us ++ [.ref T]) _ S.rel (b1.step S) (b2.step S) ((r3.step S).append (.cons rt .nil)) fun H' us' S' r' => k H' us' (S.trans S') ?_
    simpa using r'
section
variable {X : Cx} {e a b : Expr} {f g : M D} {p p2 pos pos2 : Pos}
theorem de_listzip (hc : X.calm = true) (hg : Gl X "list") (hm : X.mg "list" = none) (hg2 : Gl X "zip") (hm2 : X.mg "zip" = none) (ha : PE X a (tD X.K f)) (hb : PE X b (tD X.K g))
    (hs : starEach [a, b] X.env = (false, eval a X.env) :: starEach [b] X.env := by rfl) (hs2 : starEach [b] X.env = (false, eval b X.env) :: starEach [] X.env := by rfl) (hpl : (backTo pos2 (starEach [b] X.env)).any (·.1) = false := by rfl)
    (hs3 : starEach [Expr.Call (.Name "zip" p2) [a, b] [] pos2] X.env = (false, eval (Expr.Call (.Name "zip" p2) [a, b] [] pos2) X.env) :: starEach [] X.env := by rfl) :
    PE X (.Call (.Name "list" p) [.Call (.Name "zip" p2) [a, b] [] pos2] [] pos) (tD X.K (zipLF (consF f (consF g nilF)))) := weE (pe_listzip hc hg hm hg2 hm2 (da_cons ha (da_cons hb da_nil hs2) hs) hs hpl hs3) (by
  rintro σ H Q ⟨α, st, env, d, st', rel, re, h, k⟩
  obtain ⟨⟨as, s1⟩, hx, h⟩ := bindS h
  refine ⟨α, st, env, as, s1, rel, re, hx, fun H1 α1 vs S1 rvs => ?_⟩
  split at h
  · rename_i d1 d2 e1
    simp only at e1
    subst e1
    obtain ⟨xs, hxs, h⟩ := bindS h
    obtain ⟨ys, hys, h⟩ := bindS h
    split at h
    · rename_i hz
      cases h
      unfold RDs at rvs
      obtain ⟨v, vr, rfl, r1, r2⟩ := rvs
      unfold RDs at r2
      obtain ⟨w, wr, rfl, r2, r3⟩ := r2
      unfold RDs at r3
      subst r3
      obtain ⟨a1, us, rfl, q1, t1⟩ := seqD_ok S1.rel r1 hxs
      obtain ⟨a2, ws, rfl, q2, t2⟩ := seqD_ok S1.rel r2 hys
      have hl : (us.zip ws).length = (xs.zip ys).length := by rw [List.length_zip, List.length_zip, t1.length, t2.length]
      refine ⟨a1, a2, us, ws, rfl, q1, q2, by rw [hl]; exact hz, ?_⟩
      refine tups_ok xs ys us ws [] [] H1 S1.rel t1 t2 .nil fun H2 us' S2 r' => fun p hp => ?_
      exact k _ _ _ (S1.trans (S2.trans (newL S2.rel (by simpa using r') hp))) rdNew
    · cases h
  · cases h)
/-! ### d != e, dicts of truths -/
theorem hits_any {A : Around} {s : Shared} {kvs : List (Key × V)} {vb : List (Key × Value)} (rb : KV kvs vb) {ks : List (Key × V)} {va : List (Key × Value)} (ra : KV ks va) :
    (∀ p ∈ ks, flatB p.2 = true ∧ (valV kvs p.1 = none ∨ valV kvs p.1 = some p.2)) → PySem.W.KeqHits A s vb va (ks.all fun p => (valV kvs p.1).isSome) := by
  unfold KV at ra
  induction ra with
  | nil => intro _; exact .nil
  | @cons p q ps qs h t ih =>
    intro hp
    obtain ⟨h1, h2⟩ := h
    obtain ⟨f, e⟩ := hp p List.mem_cons_self
    obtain ⟨k, v⟩ := q
    have h1' : p.1 = k := h1
    rcases e with e | e
    · have rr : RelO none (valueAt vb p.1) := by rw [← e]; exact rb.val p.1
      have hn : valueAt vb k = none := by
        rw [← h1']
        cases hq : valueAt vb p.1 with
        | none => rfl
        | some y => rw [hq] at rr; cases rr
      have e2 : (List.all (p :: ps) fun p => (valV kvs p.1).isSome) = false := by simp [e]
      rw [e2]
      exact .miss hn
    · have rr : RelO (some p.2) (valueAt vb p.1) := by rw [← e]; exact rb.val p.1
      obtain ⟨y, hy, ry⟩ := rr.some_of
      rw [h1'] at hy
      have e2 : (List.all (p :: ps) fun p => (valV kvs p.1).isSome) = (true && ps.all fun p => (valV kvs p.1).isSome) := by simp [e]
      rw [e2]
      exact .hit hy (eqAt_same h2 ry f) (ih fun p' hm => hp p' (List.mem_cons_of_mem _ hm))
def rNeDB : R2 := fun x y H Q => ∃ a b ks ls, x = .ref a ∧ y = .ref b ∧ H a = some (.dK ks) ∧ H b = some (.dK ls) ∧ (∀ p ∈ ks, flatB p.2 = true ∧ (valV ls p.1 = none ∨ valV ls p.1 = some p.2)) ∧
  Q (.bl (!(ks.length == ls.length && ks.all fun p => (valV ls p.1).isSome))) H
theorem op_ne_dictB (hu : X.A.units < cLine) : OpR X (compareOp .NotEq) rNeDB := by
  intro pins s σ H x y v u Q I rx ry h
  obtain ⟨a, b, ks, ls, rfl, rfl, ea, eb, hp, q⟩ := h
  obtain rfl : v = Value.ref a := rx
  obtain rfl : u = Value.ref b := ry
  obtain ⟨_, ya, va, ra, da⟩ := (show ObjOk X.prog X.w H s.heap a (.dK ks) from I.hok a _ ea)
  obtain ⟨_, yb, vb, rb, db⟩ := (show ObjOk X.prog X.w H s.heap b (.dK ls) from I.hok b _ eb)
  exact PySem.W.keq_ne (knd := mixKind X.prog X.w) ya yb da db hu (fun _ => hits_any rb ra hp) (fin_bl I q (by rw [ra.length, rb.length]))
def allT : List (Key × D) → Bool
  | [] => true
  | (_, .bl b) :: r => b && allT r
  | _ => false
theorem allT_rel {K : PySem.W.Frag} {H : Hp} {α : Nat → Addr} {m : Nat} : ∀ {ks : List (Key × D)} {vs : List (Key × V)}, allT ks = true → RKV K H α m ks vs → ∀ p ∈ vs, p.2 = .bl true
  | [], _, _, r => by unfold RKV at r; subst r; intro p hp; cases hp
  | (k, .bl b) :: ks, _, h, r => by
    unfold RKV at r
    obtain ⟨v, vr, rfl, r1, r2⟩ := r
    simp only [allT, Bool.and_eq_true] at h
    intro p hp
    rcases List.mem_cons.mp hp with e | hp
    · rw [e, show v = .bl b from rdBl r1, h.1]
    · exact allT_rel h.2 r2 p hp
  | (_, .non) :: _, _, h, _ => by cases h
  | (_, .int _) :: _, _, h, _ => by cases h
  | (_, .str _) :: _, _, h, _ => by cases h
  | (_, .tup _) :: _, _, h, _ => by cases h
  | (_, .ref _) :: _, _, h, _ => by cases h
theorem RKV.allHas {K : PySem.W.Frag} {H : Hp} {α : Nat → Addr} {m : Nat} {ls : List (Key × D)} {us : List (Key × V)} (rl : RKV K H α m ls us) : ∀ {ks : List (Key × D)} {vs : List (Key × V)}, RKV K H α m ks vs → (vs.all fun p => (valV us p.1).isSome) = ks.all fun p => (kGet ls p.1).isSome
  | [], _, r => by unfold RKV at r; subst r; rfl
  | (k, d) :: ks, _, r => by
    unfold RKV at r
    obtain ⟨v, vr, rfl, r1, r2⟩ := r
    have e : (valV us k).isSome = (kGet ls k).isSome := by
      cases hk : kGet ls k with
      | none => rw [(RKV.get k rl).2 hk]; rfl
      | some d => obtain ⟨v, hv, _⟩ := (RKV.get k rl).1 d hk; rw [hv]; rfl
    simp only [List.all_cons, RKV.allHas rl r2, e]
def neDicD : D → D → Sto → Option (D × Sto)
  | .ref n, .ref m, st => match st.get n, st.get m with
    | some (.dic ks), some (.dic ls) => if allT ks = true ∧ allT ls = true then some (.bl (!(ks.length == ls.length && ks.all fun p => (kGet ls p.1).isSome)), st) else none
    | _, _ => none
  | _, _, _ => none
theorem neDicD_ok {K : PySem.W.Frag} : OpD K neDicD rNeDB := by
  intro H α st a b d st' v w Q rel h ra rb k
  unfold neDicD at h
  split at h
  · rename_i n m _
    split at h
    · rename_i ks ls e1 e2
      split at h
      · rename_i hz
        cases h
        obtain ⟨vs, h1, r1⟩ := rel.dic e1
        obtain ⟨us, h2, r2⟩ := rel.dic e2
        refine ⟨_, _, vs, us, (rdRef ra).2, (rdRef rb).2, h1, h2, fun p hp => ?_, ?_⟩
        · have q := allT_rel hz.1 r1 p hp
          refine ⟨by rw [q]; rfl, ?_⟩
          cases hv : valV us p.1 with
          | none => exact .inl rfl
          | some x =>
            unfold valV at hv
            obtain ⟨y, hy, rfl⟩ := mapS hv
            right
            rw [q, allT_rel hz.2 r2 y (List.mem_of_find?_eq_some hy)]
        · rw [r1.length, r2.length, RKV.allHas r2 r1]
          exact k H α _ (.refl rel) rBl
      · cases h
    · cases h
  · cases h
theorem dt_neDic (hu : X.A.units < cLine) (ha : PE X a (tD X.K f)) (hb : PE X b (tD X.K g)) : PT X (.Compare a [.NotEq] [b] pos) (tDT X.K (tstF (opF neDicD f g))) := dt_cmp (op_ne_dictB hu) neDicD_ok ha hb (nomark _)
/-! ### for k in d, the dict locked -/
def keysF (f : M D) : Env → Sto → Option (Src × Sto) := fun env st => (f env st).bind fun p => match p.1 with
  | .ref n => match p.2.get n with
    | some (.frd _) => some (.keys n, p.2)
    | _ => none
  | _ => none
theorem RKV.key {K : PySem.W.Frag} {H : Hp} {α : Nat → Addr} {m : Nat} : ∀ {ks : List (Key × D)} {vs : List (Key × V)} {i : Nat}, RKV K H α m ks vs → (vs[i]?).map (·.1) = (ks[i]?).map (·.1)
  | [], _, _, r => by unfold RKV at r; subst r; rfl
  | (k, d) :: ks, _, i, r => by
    unfold RKV at r
    obtain ⟨v, vr, rfl, r1, r2⟩ := r
    cases i with
    | zero => rfl
    | succ i => simpa using RKV.key r2
theorem di_keys {tg : Expr} (he : PE X e (tD X.K f)) : PI X tg e (tDI X.K (keysF f)) := wePI (pi_keys he) (by
  rintro σ H R ⟨α, st, env, src, st', rel, re, h, k⟩
  obtain ⟨⟨d, s1⟩, hd, h⟩ := bindS h
  refine ⟨α, st, env, d, s1, rel, re, hd, fun H1 α1 v S1 rv => ?_⟩
  cases d with
  | ref n =>
    cases hg : s1.get n with
    | none => simp only [hg] at h; cases h
    | some o =>
      cases o with
      | frd kvs =>
        simp only [hg] at h
        cases h
        obtain ⟨ob, vs, h1, h2⟩ := S1.rel.frd hg
        obtain ⟨hn, rfl⟩ := rdRef rv
        refine ⟨_, ob, rfl, .inl ⟨vs, h1, k H1 α1 _ S1 ?_⟩⟩
        intro H' α' st2 S i
        have hz := S.ext.frz _ _ _ h1
        have ha : α' n = α1 n := S.agree n hn
        have key : ∀ kvs', st2.get n = some (.frd kvs') → RKV X.K H' α' st2.size kvs' vs := fun kvs' e => by
          obtain ⟨o2, ws, q1, q2⟩ := S.rel.frd e
          rw [ha, hz] at q1
          cases q1
          exact q2
        refine ⟨fun d h => ?_, fun h => ?_⟩
        · unfold nextD at h
          dsimp only at h
          cases hg2 : st2.get n with
          | none => simp only [hg2] at h; cases h
          | some o =>
            cases o with
            | frd kvs' =>
              simp only [hg2] at h
              obtain ⟨kv, hkv, rfl⟩ := mapS (Option.some.inj h)
              have e := RKV.key (i := i) (key kvs' hg2)
              rw [hkv] at e
              obtain ⟨⟨k2, v2⟩, hv2, e2⟩ := mapS e
              have e2 : k2 = kv.1 := e2
              subst e2
              have hi : i < vs.length := (List.getElem?_eq_some_iff.mp hv2).1
              refine ⟨⟨hz, hi⟩, fun x H'' y => ?_⟩
              obtain ⟨rfl, k3, v3, hv3, rfl⟩ := y
              rw [hv2] at hv3
              cases hv3
              exact ⟨.refl S.rel, rKey⟩
            | _ => simp only [hg2] at h; cases h
        · unfold nextD at h
          dsimp only at h
          cases hg2 : st2.get n with
          | none => simp only [hg2] at h; cases h
          | some o =>
            cases o with
            | frd kvs' =>
              simp only [hg2] at h
              have hn2 : kvs'[i]? = none := Option.map_eq_none_iff.mp (Option.some.inj h)
              have e := RKV.key (i := i) (key kvs' hg2)
              rw [hn2] at e
              exact ⟨hz, List.getElem?_eq_none_iff.mp (Option.map_eq_none_iff.mp e)⟩
            | _ => simp only [hg2] at h; cases h
      | _ => simp only [hg] at h; cases h
  | _ => cases h)
end
/-! ### sorted(set(t)) -/
def ddup : List Int → List Int
  | [] => []
  | n :: r => if n ∈ r then ddup r else n :: ddup r
theorem ddup_mem {k : Int} : ∀ {l : List Int}, k ∈ ddup l ↔ k ∈ l
  | [] => Iff.rfl
  | n :: r => by
    unfold ddup
    have ih := @ddup_mem k r
    split
    · rename_i hn
      rw [ih, List.mem_cons]
      exact ⟨.inr, fun h => h.elim (fun e => e ▸ hn) id⟩
    · rw [List.mem_cons, List.mem_cons, ih]
theorem ddup_nodup : ∀ l : List Int, (ddup l).Nodup
  | [] => .nil
  | n :: r => by
    unfold ddup
    split
    · exact ddup_nodup r
    · rename_i hn
      exact List.nodup_cons.mpr ⟨fun h => hn (ddup_mem.mp h), ddup_nodup r⟩
theorem lt_of_set {ns l : List Int} (h : ns.Pairwise (· < ·)) (hm : ∀ k : Int, k ∈ ns ↔ k ∈ l) : ns = srt (ddup l) := by
  refine srt_of ?_ (h.imp fun h => Int.le_of_lt h)
  refine (List.perm_ext_iff_of_nodup (h.imp fun h e => by omega) (ddup_nodup l)).mpr fun k => ?_
  rw [hm, ddup_mem]
section
variable {X : Cx} {e : Expr} {f : M D} {p p2 pos pos2 : Pos}
def rSetTI (K : PySem.W.Frag) (w : World) : List V → Hp → VK → Prop := fun xs H Q => ∃ (l : Addr) (ns : List Int), xs = [.ref l] ∧ SqT K H l (ns.map V.int) ∧ ns.length < 64 ∧ ∀ (q : Addr) (c : Nat), H q = none → c ≤ ns.length → Q (.ref q) (upd H q (SetO w q (fun j => decide (j ∈ ns)) c))
theorem cr_setTI (hc : X.calm = true) : CallR X (.type "set") (rSetTI X.K X.w) := by
  intro pins s σ H xs us Q I r q
  obtain ⟨l, ns, ex, hq, hl, q⟩ := q
  subst ex
  obtain ⟨u, eu, rx⟩ := vals1 r
  subst eu
  cases rx
  obtain ⟨its, rv, pt, hz⟩ := I.tuple hq
  refine call_set_tupI ns (I.ok.hd hc) (show s.heap.IsTuple l its.toArray from pt) (ints_of_vals rv) (by unfold scanBound; omega) fun h' tk c R1 hcn k => ?_
  exact ⟨.ref _, _, I.laid (t' := tk) k (Nat.le_refl _) (setO_new R1), rfl, q _ c (I.hok.fresh (Nat.le_refl _)) hcn⟩
def sortedSetF (f : M D) : M D := fun env st => (f env st).bind fun p => match p.1 with
  | .tup xs => (intsD xs).bind fun ns => if ns.length < 64 then some (.ref p.2.size, p.2.push (.lst ((srt (ddup ns)).map D.int))) else none
  | _ => none
theorem de_sortedSet (hc : X.calm = true) (hg : Gl X "sorted") (hm : X.mg "sorted" = none) (hg2 : Gl X "set") (hm2 : X.mg "set" = none) (ha : PE X e (tD X.K f))
    (hs : starEach [e] X.env = (false, eval e X.env) :: starEach [] X.env := by rfl)
    (hs3 : starEach [Expr.Call (.Name "set" p2) [e] [] pos2] X.env = (false, eval (Expr.Call (.Name "set" p2) [e] [] pos2) X.env) :: starEach [] X.env := by rfl) :
    PE X (.Call (.Name "sorted" p) [.Call (.Name "set" p2) [e] [] pos2] [] pos) (tD X.K (sortedSetF f)) :=
  weE (pe_callB (cr_sortedSet hc) hg hm (by decide +kernel) (pa_cons (pe_callTy (cr_setTI hc) hg2 hm2 (by decide +kernel) (da_cons ha da_nil hs) (by decide) (by decide) hs rfl) pa_nil hs3) (by decide) (by decide) hs3 rfl) (by
  rintro σ H Q ⟨α, st, env, d, st', rel, re, h, k⟩
  obtain ⟨⟨x, s1⟩, hx, h⟩ := bindS h
  refine ⟨α, st, env, [x], s1, rel, re, by unfold consF nilF; rw [hx]; rfl, fun H1 α1 vs S1 rvs => ?_⟩
  unfold RDs at rvs
  obtain ⟨v, vr, rfl, r1, r2⟩ := rvs
  unfold RDs at r2
  subst r2
  cases x with
  | tup xs =>
    obtain ⟨ns, hns, h⟩ := bindS h
    split at h
    · rename_i hz
      cases h
      obtain ⟨a, vs, rfl, q1, q2⟩ := rdTup r1
      have e : vs = ns.map V.int := ints_rel q2 hns
      subst e
      refine ⟨a, ns, rfl, q1, hz, fun q c hq hcn => ?_⟩
      have S2 := S1.rel.any (o := SetO X.w q (fun j => decide (j ∈ ns)) c) hq
      refine ⟨q, _, c, rfl, upd_same, by omega, fun ms p hlt hmm _ hp => ?_⟩
      have e : ms = srt (ddup ns) := lt_of_set hlt fun k => by rw [hmm k, decide_eq_true_eq]
      subst e
      exact k _ _ _ (S1.trans (S2.trans (newL S2.rel (ints_map _) hp))) rdNew
    · cases h
  | _ => cases h)
end
end Dn
/-! A def's body. -/
namespace Dn
open PySem PySem.Spec PyProof.Rows L2
def bodyD (m : Nat) (f : SM) : FnD := fun args st => match f (args.map some ++ List.replicate (m - args.length) none) st with
  | some (.rt d s) => some (d, s)
  | some (.nx _ s) => some (.non, s)
  | _ => none
theorem re_start {K : PySem.W.Frag} {H : Hp} {α : Nat → Addr} {m : Nat} : ∀ {ds : List D} {vs : List V} (n : Nat), RDs K H α m ds vs → RE K H α m (vs.map some ++ List.replicate n none) (ds.map some ++ List.replicate n none)
  | [], _, n, h => by
    unfold RDs at h
    subst h
    refine ⟨(by simp), fun i d e => ?_⟩
    simp only [List.map_nil, List.nil_append, List.getElem?_replicate] at e
    split at e <;> cases e
  | d :: ds, _, n, h => by
    unfold RDs at h
    obtain ⟨v, r, rfl, h1, h2⟩ := h
    obtain ⟨ih1, ih2⟩ := re_start n h2
    refine ⟨by simp only [List.map_cons, List.cons_append, List.length_cons, ih1], fun i e q => ?_⟩
    cases i with
    | zero =>
      cases q
      exact ⟨v, rfl, h1⟩
    | succ i =>
      simp only [List.map_cons, List.cons_append, List.getElem?_cons_succ] at q ⊢
      exact ih2 i e q
theorem body_ok {K : PySem.W.Frag} {N : List Str} {n : Nat} {f : SM} {vs : List V} {H : Hp} {Q : VK} {E : XK} (hn : n ≤ N.length) (h : spD K n (bodyD N.length f) vs H Q E) : tDS K f { nx := fun _ H' => Q .non H', rt := Q } (L2.start N vs) H := by
  obtain ⟨α, st, args, d, st', rel, ra, hl, h, k⟩ := h
  have he : RE K H α st.size (L2.start N vs) (args.map some ++ List.replicate (N.length - args.length) none) := by
    unfold L2.start
    rw [ra.length]
    exact re_start _ ra
  unfold bodyD at h
  split at h
  · rename_i d' s e
    cases h
    exact ⟨α, st, _, _, rel, he, e, fun H1 α1 v S1 rv => k H1 α1 v S1 rv⟩
  · rename_i e' s e
    cases h
    exact ⟨α, st, _, _, rel, he, e, fun H1 α1 σ1 S1 re1 => k H1 α1 .non S1 (by unfold RD; rfl)⟩
  · cases h
theorem hu64_of {A : Around} {k : Nat} (hr : Room k A) : A.units + 64 < cLine := by have := hr.un; omega
theorem hu0_of {A : Around} {k : Nat} (hr : Room k A) : A.units < cLine := by have := hr.un; omega
theorem ok_zero {P : Program} {w : World} {K : PySem.W.Frag} {mg : Str → Option Value} {base : Heap} {f : Addr} {fd : FuncData} {ps : List Str} {n : Nat} : FnOk P w K mg base CX0 0 f fd ps (spD K n fun _ _ => none) :=
  ⟨(fun vs H Q E h => (by obtain ⟨α, st, args, d, st', rel, ra, hl, h, k⟩ := h; cases h)), (fun A outer s H args us vs Q E _ _ _ _ h => (by obtain ⟨α, st, args, d, st', rel, ra, hl, h, k⟩ := h; cases h))⟩
section
variable {X : Cx} {c : Expr} {ft : M Bool} {pos : Pos}
theorem dts_one (h : PT X c (tDT X.K ft)) : PTs X [c] (tDT X.K ft) := pts_one h
def newF : M D := fun _ st => some (.ref st.size, st.push (.dic []))
theorem de_new : PE X (.Dict [] [] pos) (tD X.K newF) := de_disp0
end
end Dn
namespace Hd
open PySem PySem.Spec PyProof.Rows L2
abbrev prg : Program := PySem.Challenge.pw_chainwright_k71_living_walked
def top (i : Nat) : Stmt := PySem.Challenge.pw_chainwright_k71_living_walked.main.body.getD i (.Pass ⟨0, 0, 0, 0⟩)
abbrev s_ends_leads : Stmt := top 1
def d_ends_leads : He.DefD := ⟨("ends_leads", none), "ends_leads", "ends_leads", defArgs s_ends_leads, defBody s_ends_leads, defScope s_ends_leads, [], []⟩
abbrev s_leads : Stmt := top 2
def d_leads : He.DefD := ⟨("leads", none), "leads", "leads", defArgs s_leads, defBody s_leads, defScope s_leads, [], []⟩
abbrev s_ends_args : Stmt := top 4
def d_ends_args : He.DefD := ⟨("ends_args", none), "ends_args", "ends_args", defArgs s_ends_args, defBody s_ends_args, defScope s_ends_args, [], []⟩
abbrev s_params_in : Stmt := top 6
def d_params_in : He.DefD := ⟨("params_in", none), "params_in", "params_in", defArgs s_params_in, defBody s_params_in, defScope s_params_in, [], []⟩
abbrev s_noted : Stmt := top 7
def d_noted : He.DefD := ⟨("noted", none), "noted", "noted", defArgs s_noted, defBody s_noted, defScope s_noted, [], []⟩
abbrev s_living_behind : Stmt := top 8
def d_living_behind : He.DefD := ⟨("living_behind", none), "living_behind", "living_behind", defArgs s_living_behind, defBody s_living_behind, defScope s_living_behind, [], []⟩
abbrev s_living_ahead : Stmt := top 9
def d_living_ahead : He.DefD := ⟨("living_ahead", none), "living_ahead", "living_ahead", defArgs s_living_ahead, defBody s_living_ahead, defScope s_living_ahead, [], []⟩
abbrev s_living_dicts : Stmt := top 10
def d_living_dicts : He.DefD := ⟨("living_dicts", none), "living_dicts", "living_dicts", defArgs s_living_dicts, defBody s_living_dicts, defScope s_living_dicts, [], []⟩
abbrev s_living : Stmt := top 11
def d_living : He.DefD := ⟨("living", none), "living", "living", defArgs s_living, defBody s_living, defScope s_living, [], []⟩
abbrev s__law_pot : Stmt := top 13
def d__law_pot : He.DefD := ⟨("_law_pot", none), "_law_pot", "_law_pot", defArgs s__law_pot, defBody s__law_pot, defScope s__law_pot, [], []⟩
abbrev s__law_mix : Stmt := top 14
def d__law_mix : He.DefD := ⟨("_law_mix", none), "_law_mix", "_law_mix", defArgs s__law_mix, defBody s__law_mix, defScope s__law_mix, [], []⟩
abbrev s__law_take : Stmt := top 15
def d__law_take : He.DefD := ⟨("_law_take", none), "_law_take", "_law_take", defArgs s__law_take, defBody s__law_take, defScope s__law_take, [], []⟩
abbrev s__law_ops : Stmt := top 16
def d__law_ops : He.DefD := ⟨("_law_ops", none), "_law_ops", "_law_ops", defArgs s__law_ops, defBody s__law_ops, defScope s__law_ops, [], []⟩
abbrev s__law_put : Stmt := top 17
def d__law_put : He.DefD := ⟨("_law_put", none), "_law_put", "_law_put", defArgs s__law_put, defBody s__law_put, defScope s__law_put, [], []⟩
abbrev s__law_name : Stmt := top 18
def d__law_name : He.DefD := ⟨("_law_name", none), "_law_name", "_law_name", defArgs s__law_name, defBody s__law_name, defScope s__law_name, [], []⟩
abbrev s__law_straight : Stmt := top 19
def d__law_straight : He.DefD := ⟨("_law_straight", none), "_law_straight", "_law_straight", defArgs s__law_straight, defBody s__law_straight, defScope s__law_straight, [], []⟩
abbrev s__law_open : Stmt := top 20
def d__law_open : He.DefD := ⟨("_law_open", none), "_law_open", "_law_open", defArgs s__law_open, defBody s__law_open, defScope s__law_open, [], []⟩
abbrev s__law_begin : Stmt := top 21
def d__law_begin : He.DefD := ⟨("_law_begin", none), "_law_begin", "_law_begin", defArgs s__law_begin, defBody s__law_begin, defScope s__law_begin, [], []⟩
abbrev s__law_end : Stmt := top 22
def d__law_end : He.DefD := ⟨("_law_end", none), "_law_end", "_law_end", defArgs s__law_end, defBody s__law_end, defScope s__law_end, [], []⟩
abbrev s__law_choice : Stmt := top 23
def d__law_choice : He.DefD := ⟨("_law_choice", none), "_law_choice", "_law_choice", defArgs s__law_choice, defBody s__law_choice, defScope s__law_choice, [], []⟩
abbrev s__law_loop : Stmt := top 24
def d__law_loop : He.DefD := ⟨("_law_loop", none), "_law_loop", "_law_loop", defArgs s__law_loop, defBody s__law_loop, defScope s__law_loop, [], []⟩
abbrev s__law_body : Stmt := top 25
def d__law_body : He.DefD := ⟨("_law_body", none), "_law_body", "_law_body", defArgs s__law_body, defBody s__law_body, defScope s__law_body, [], []⟩
abbrev s__law_function : Stmt := top 26
def d__law_function : He.DefD := ⟨("_law_function", none), "_law_function", "_law_function", defArgs s__law_function, defBody s__law_function, defScope s__law_function, [], []⟩
abbrev s__law_middle : Stmt := top 27
def d__law_middle : He.DefD := ⟨("_law_middle", none), "_law_middle", "_law_middle", defArgs s__law_middle, defBody s__law_middle, defScope s__law_middle, [], []⟩
abbrev s__law_other : Stmt := top 28
def d__law_other : He.DefD := ⟨("_law_other", none), "_law_other", "_law_other", defArgs s__law_other, defBody s__law_other, defScope s__law_other, [], []⟩
abbrev s__law_other_end : Stmt := top 29
def d__law_other_end : He.DefD := ⟨("_law_other_end", none), "_law_other_end", "_law_other_end", defArgs s__law_other_end, defBody s__law_other_end, defScope s__law_other_end, [], []⟩
abbrev s__law_other_row : Stmt := top 30
def d__law_other_row : He.DefD := ⟨("_law_other_row", none), "_law_other_row", "_law_other_row", defArgs s__law_other_row, defBody s__law_other_row, defScope s__law_other_row, [], []⟩
abbrev s__law_renamed : Stmt := top 31
def d__law_renamed : He.DefD := ⟨("_law_renamed", none), "_law_renamed", "_law_renamed", defArgs s__law_renamed, defBody s__law_renamed, defScope s__law_renamed, [], []⟩
abbrev s__law_asked_by : Stmt := top 32
def d__law_asked_by : He.DefD := ⟨("_law_asked_by", none), "_law_asked_by", "_law_asked_by", defArgs s__law_asked_by, defBody s__law_asked_by, defScope s__law_asked_by, [], []⟩
abbrev s__law_goals : Stmt := top 33
def d__law_goals : He.DefD := ⟨("_law_goals", none), "_law_goals", "_law_goals", defArgs s__law_goals, defBody s__law_goals, defScope s__law_goals, [], []⟩
abbrev s__law_met : Stmt := top 34
def d__law_met : He.DefD := ⟨("_law_met", none), "_law_met", "_law_met", defArgs s__law_met, defBody s__law_met, defScope s__law_met, [], []⟩
abbrev s__law_lives : Stmt := top 35
def d__law_lives : He.DefD := ⟨("_law_lives", none), "_law_lives", "_law_lives", defArgs s__law_lives, defBody s__law_lives, defScope s__law_lives, [], []⟩
abbrev s__law_params : Stmt := top 36
def d__law_params : He.DefD := ⟨("_law_params", none), "_law_params", "_law_params", defArgs s__law_params, defBody s__law_params, defScope s__law_params, [], []⟩
abbrev s__law_given : Stmt := top 37
def d__law_given : He.DefD := ⟨("_law_given", none), "_law_given", "_law_given", defArgs s__law_given, defBody s__law_given, defScope s__law_given, [], []⟩
abbrev s__law_changed : Stmt := top 38
def d__law_changed : He.DefD := ⟨("_law_changed", none), "_law_changed", "_law_changed", defArgs s__law_changed, defBody s__law_changed, defScope s__law_changed, [], []⟩
abbrev s_law : Stmt := top 39
def d_law : He.DefD := ⟨("law", none), "law", "law", defArgs s_law, defBody s_law, defScope s_law, [], []⟩
def fn : List He.DefD := ([d_ends_leads, d_leads, d_ends_args, d_params_in, d_noted, d_living_behind, d_living_ahead, d_living_dicts, d_living, d__law_pot, d__law_mix, d__law_take, d__law_ops, d__law_put, d__law_name] : List He.DefD) ++ ([d__law_straight, d__law_open, d__law_begin, d__law_end, d__law_choice, d__law_loop, d__law_body, d__law_function, d__law_middle, d__law_other, d__law_other_end, d__law_other_row, d__law_renamed, d__law_asked_by, d__law_goals] : List He.DefD) ++ ([d__law_met, d__law_lives, d__law_params, d__law_given, d__law_changed, d_law] : List He.DefD)
def fa : List He.Fa := ([.glo "ends_leads", .glo "leads", .glo "ends_args", .glo "params_in", .glo "noted", .glo "living_behind", .glo "living_ahead", .glo "living_dicts", .glo "living", .glo "_law_pot", .glo "_law_mix", .glo "_law_take", .glo "_law_ops", .glo "_law_put", .glo "_law_name"] : List He.Fa) ++ ([.glo "_law_straight", .glo "_law_open", .glo "_law_begin", .glo "_law_end", .glo "_law_choice", .glo "_law_loop", .glo "_law_body", .glo "_law_function", .glo "_law_middle", .glo "_law_other", .glo "_law_other_end", .glo "_law_other_row", .glo "_law_renamed", .glo "_law_asked_by", .glo "_law_goals"] : List He.Fa) ++ ([.glo "_law_met", .glo "_law_lives", .glo "_law_params", .glo "_law_given", .glo "_law_changed", .glo "law", .free "abs", .free "all", .free "dict", .free "enumerate", .free "int", .free "isinstance", .free "len", .free "list", .free "min"] : List He.Fa) ++ ([.free "range", .free "reversed", .free "set", .free "sorted", .free "tuple", .free "zip"] : List He.Fa)
def loose : List PySem.Str := (["ends_leads", "leads", "ends_args", "params_in", "noted", "living_behind", "living_ahead", "living_dicts", "living", "_law_pot", "_law_mix", "_law_take", "_law_ops", "_law_put", "_law_name"] : List PySem.Str) ++ (["_law_straight", "_law_open", "_law_begin", "_law_end", "_law_choice", "_law_loop", "_law_body", "_law_function", "_law_middle", "_law_other", "_law_other_end", "_law_other_row", "_law_renamed", "_law_asked_by", "_law_goals"] : List PySem.Str) ++ (["_law_met", "_law_lives", "_law_params", "_law_given", "_law_changed"] : List PySem.Str)
abbrev R : PySem.W.OpenRow := PySem.W.OpenLaw.row PySem.Challenge.rw_chainwright_k71_living_walked
abbrev hk : PySem.W.Hook := He.hookD 5 fa fn
def ob (s : PySem.W.SharedT) : He.AlD := He.obsDG 5 fa fn (HandSHeadRun.getT s)
theorem ob_eq (s : PySem.W.SharedT) : ob s = hk.obs s.abs := He.obsDG_eq (HandSHeadRun.getT_eq s)
theorem run (w : World) : HandSHeadRun.RunEq R (PySem.W.view R.prog [39]) hk ob 3000 loose w := by
  intro os
  kernel_rfl
end Hd
namespace Hd
open PySem PySem.Spec PyProof.Rows L2 Dn
abbrev FnP (K : PySem.W.Frag) (x : Str) (st : Stmt) (f : Addr) (fd : FuncData) : Prop := FunD K x x (defArgs st) (defBody st) (defScope st) [] [] f fd
abbrev N_ends_leads : List PySem.Str := (["end"] : List PySem.Str)
def b_ends_leads (c : Nat → FnD) : SM := seqS (ifS (tstF (opF (eqD false) (opF getD (varF 0) (cF (.int 0))) (cF (.str "jump")))) (retS (lstF (consF (opF getD (varF 0) (cF (.int 1))) nilF))) (nextS))
  (seqS (ifS (tstF (opF (eqD false) (opF getD (varF 0) (cF (.int 0))) (cF (.str "branch")))) (retS (sortedSetF (slF (varF 0) (soF (cF (.int 2))) (noF)))) (nextS))
  (retS (lstF (nilF))))
theorem sc_ends_leads : FnScope N_ends_leads ["end"] (defScope s_ends_leads) := ⟨rfl, rfl, rfl, by decide +kernel, rfl, by decide +kernel, by decide +kernel⟩
theorem ok_ends_leads {P : Program} {w : World} {K : PySem.W.Frag} {mg : Str → Option Value} {base : Heap} {k : Nat} {c : Nat → FnD} {f_ends_leads : Addr} {fd_ends_leads : FuncData} (F_ends_leads : FnP K "ends_leads" s_ends_leads f_ends_leads fd_ends_leads) (n_sorted : mg "sorted" = none) (n_set : mg "set" = none) : FnOk P w K mg base CX0 (k + 1) f_ends_leads fd_ends_leads ["end"] (spD K 1 (bodyD N_ends_leads.length (b_ends_leads c))) := by
  refine F_ends_leads.ok sc_ends_leads (fun vs H Q E h => spD_len h) (fun cdv A outer s H vs Q E hr h => ⟨tDS K (b_ends_leads c), PSs.nox ?_, body_ok (by decide) h⟩)
  have nd := sc_ends_leads.nd
  have hu1 := hu_of hr
  have hu64 := hu64_of hr
  have hu0 := hu0_of hr
  exact dss_cons (ds_if (dt_eq hu64 (de_ix hu1 (de_var 0) (de_int)) (de_str)) (dss_one (ds_ret (de_lst (da_cons (de_ix hu1 (de_var 0) (de_int)) da_nil)))) (dss_nil))
    (dss_cons (ds_if (dt_eq hu64 (de_ix hu1 (de_var 0) (de_int)) (de_str)) (dss_one (ds_ret (de_sortedSet rfl rfl n_sorted rfl n_set (de_slice (de_var 0) (do_some (de_int)) (do_none))))) (dss_nil))
    (dss_one (ds_ret (de_lst (da_nil)))))
abbrev N_leads : List PySem.Str := (["function", "block"] : List PySem.Str)
def b_leads (c : Nat → FnD) : SM := retS (lcF (seqI (opF getD (varF 0) (cF (.int 2)))) (nameG 1) (yesF) (callF 1 (c 0) (consF (opF getD (varF 1) (cF (.int 2))) nilF)) [1])
theorem sc_leads : FnScope N_leads ["function"] (defScope s_leads) := ⟨rfl, rfl, rfl, by decide +kernel, rfl, by decide +kernel, by decide +kernel⟩
theorem ok_leads {P : Program} {w : World} {K : PySem.W.Frag} {mg : Str → Option Value} {base : Heap} {k : Nat} {c : Nat → FnD} {f_leads : Addr} {fd_leads : FuncData} (F_leads : FnP K "leads" s_leads f_leads fd_leads) {f_ends_leads : Addr} {fd_ends_leads : FuncData} (F_ends_leads : FnP K "ends_leads" s_ends_leads f_ends_leads fd_ends_leads) (G_ends_leads : mg "ends_leads" = some (.ref f_ends_leads)) (O_ends_leads : FnOk P w K mg base CX0 k f_ends_leads fd_ends_leads ["end"] (spD K 1 (c 0))) : FnOk P w K mg base CX0 (k + 1) f_leads fd_leads ["function"] (spD K 1 (bodyD N_leads.length (b_leads c))) := by
  have B_ends_leads : Binds K fd_ends_leads ["end"] [] := F_ends_leads.bindsN fun _ _ _ _ _ _ us hl => match us, hl with | [_], _ => rfl
  refine F_leads.ok sc_leads (fun vs H Q E h => spD_len h) (fun cdv A outer s H vs Q E hr h => ⟨tDS K (b_leads c), PSs.nox ?_, body_ok (by decide) h⟩)
  have nd := sc_leads.nd
  have hu1 := hu_of hr
  have hu64 := hu64_of hr
  have hu0 := hu0_of hr
  exact dss_one (ds_ret (de_lc (own := [("block", 1)]) rfl nd (di_seq (de_ix hu1 (de_var 0) (de_int))) (blkOk_by (N := N_leads) (sc := defScope s_leads) (by decide +kernel)) (fun _ _ _ _ _ => dgw_name (i := 1) nd rfl (by first | exact Or.inl rfl | exact Or.inr rfl)) (fun _ _ _ _ _ => dts_nil) (fun _ _ _ _ _ => de_call O_ends_leads hr rfl G_ends_leads F_ends_leads.kp B_ends_leads (da_cons (de_ix hu1 (de_var 1) (de_int)) da_nil))))
abbrev N_ends_args : List PySem.Str := (["end"] : List PySem.Str)
def b_ends_args (c : Nat → FnD) : SM := seqS (ifS (tstF (opF (eqD false) (opF getD (varF 0) (cF (.int 0))) (cF (.str "jump")))) (retS (unF listD (opF getD (varF 0) (cF (.int 2))))) (nextS))
  (seqS (ifS (tstF (opF (inD false) (opF getD (varF 0) (cF (.int 0))) (tupF (consF (cF (.str "branch")) (consF (cF (.str "give")) nilF))))) (retS (lstF (consF (opF getD (varF 0) (cF (.int 1))) nilF))) (nextS))
  (retS (lstF (nilF))))
theorem sc_ends_args : FnScope N_ends_args ["end"] (defScope s_ends_args) := ⟨rfl, rfl, rfl, by decide +kernel, rfl, by decide +kernel, by decide +kernel⟩
theorem ok_ends_args {P : Program} {w : World} {K : PySem.W.Frag} {mg : Str → Option Value} {base : Heap} {k : Nat} {c : Nat → FnD} {f_ends_args : Addr} {fd_ends_args : FuncData} (F_ends_args : FnP K "ends_args" s_ends_args f_ends_args fd_ends_args) (n_list : mg "list" = none) : FnOk P w K mg base CX0 (k + 1) f_ends_args fd_ends_args ["end"] (spD K 1 (bodyD N_ends_args.length (b_ends_args c))) := by
  refine F_ends_args.ok sc_ends_args (fun vs H Q E h => spD_len h) (fun cdv A outer s H vs Q E hr h => ⟨tDS K (b_ends_args c), PSs.nox ?_, body_ok (by decide) h⟩)
  have nd := sc_ends_args.nd
  have hu1 := hu_of hr
  have hu64 := hu64_of hr
  have hu0 := hu0_of hr
  exact dss_cons (ds_if (dt_eq hu64 (de_ix hu1 (de_var 0) (de_int)) (de_str)) (dss_one (ds_ret (de_list rfl rfl n_list (de_ix hu1 (de_var 0) (de_int))))) (dss_nil))
    (dss_cons (ds_if (dt_in hu1 (de_ix hu1 (de_var 0) (de_int)) (de_tup (da_cons (de_str) (da_cons (de_str) da_nil)))) (dss_one (ds_ret (de_lst (da_cons (de_ix hu1 (de_var 0) (de_int)) da_nil)))) (dss_nil))
    (dss_one (ds_ret (de_lst (da_nil)))))
abbrev N_params_in : List PySem.Str := (["block", "x", "kind"] : List PySem.Str)
def b_params_in (c : Nat → FnD) : SM := retS (lcF (seqI (opF getD (varF 0) (cF (.int 0)))) (tupG 2 (consG (nameG 1) (consG (nameG 2) (nilG)))) (yesF) (varF 1) [1, 2])
theorem sc_params_in : FnScope N_params_in ["block"] (defScope s_params_in) := ⟨rfl, rfl, rfl, by decide +kernel, rfl, by decide +kernel, by decide +kernel⟩
theorem ok_params_in {P : Program} {w : World} {K : PySem.W.Frag} {mg : Str → Option Value} {base : Heap} {k : Nat} {c : Nat → FnD} {f_params_in : Addr} {fd_params_in : FuncData} (F_params_in : FnP K "params_in" s_params_in f_params_in fd_params_in) : FnOk P w K mg base CX0 (k + 1) f_params_in fd_params_in ["block"] (spD K 1 (bodyD N_params_in.length (b_params_in c))) := by
  refine F_params_in.ok sc_params_in (fun vs H Q E h => spD_len h) (fun cdv A outer s H vs Q E hr h => ⟨tDS K (b_params_in c), PSs.nox ?_, body_ok (by decide) h⟩)
  have nd := sc_params_in.nd
  have hu1 := hu_of hr
  have hu64 := hu64_of hr
  have hu0 := hu0_of hr
  exact dss_one (ds_ret (de_lc (own := [("x", 1), ("kind", 2)]) rfl nd (di_seq (de_ix hu1 (de_var 0) (de_int))) (blkOk_by (N := N_params_in) (sc := defScope s_params_in) (by decide +kernel)) (fun _ _ _ _ _ => dgw_tup rfl (dgsw_cons (dgw_name (i := 1) nd rfl (by first | exact Or.inl rfl | exact Or.inr rfl)) (dgsw_cons (dgw_name (i := 2) nd rfl (by first | exact Or.inl rfl | exact Or.inr rfl)) (dgsw_nil)))) (fun _ _ _ _ _ => dts_nil) (fun _ _ _ _ _ => de_var 1)))
abbrev N_noted : List PySem.Str := (["names", "found", "x"] : List PySem.Str)
def b_noted (c : Nat → FnD) : SM := seqS (setS 1 (newF))
  (seqS (forS (seqI (varF 0)) (nameG 2) (asgS (cF (.bl true)) (subG (varF 1) (varF 2))))
  (retS (varF 1)))
theorem sc_noted : FnScope N_noted ["names"] (defScope s_noted) := ⟨rfl, rfl, rfl, by decide +kernel, rfl, by decide +kernel, by decide +kernel⟩
theorem ok_noted {P : Program} {w : World} {K : PySem.W.Frag} {mg : Str → Option Value} {base : Heap} {k : Nat} {c : Nat → FnD} {f_noted : Addr} {fd_noted : FuncData} (F_noted : FnP K "noted" s_noted f_noted fd_noted) : FnOk P w K mg base CX0 (k + 1) f_noted fd_noted ["names"] (spD K 1 (bodyD N_noted.length (b_noted c))) := by
  refine F_noted.ok sc_noted (fun vs H Q E h => spD_len h) (fun cdv A outer s H vs Q E hr h => ⟨tDS K (b_noted c), PSs.nox ?_, body_ok (by decide) h⟩)
  have nd := sc_noted.nd
  have hu1 := hu_of hr
  have hu64 := hu64_of hr
  have hu0 := hu0_of hr
  exact dss_cons (ds_set (i := 1) nd rfl (Or.inl rfl) (de_new))
    (dss_cons (ds_for PassesOwn.never rfl (di_seq (de_var 0)) (dg_name (i := 2) nd rfl (Or.inl rfl)) (dss_one (ds_asg (de_bl) (dg_sub hu1 (de_var 1) (de_var 2)))))
    (dss_one (ds_ret (de_var 1))))
abbrev N_living_behind : List PySem.Str := (["blocks", "goals", "found", "alive", "goal", "params", "x"] : List PySem.Str)
def b_living_behind (c : Nat → FnD) : SM := seqS (setS 3 (newF))
  (seqS (forS (seqI (varF 1)) (nameG 4) (seqS (setS 5 (callF 1 (c 3) (consF (opF getD (varF 0) (varF 4)) nilF)))
  (exprS (methF isDk updateD (varF 3) (consF (callF 1 (c 4) (consF (lockF (opF getD (varF 2) (varF 4)) (lcF (keysF (opF getD (varF 2) (varF 4))) (nameG 6) (tstF (opF (inD true) (varF 6) (varF 5))) (varF 6) [6])) nilF)) nilF)))))
  (retS (varF 3)))
theorem sc_living_behind : FnScope N_living_behind ["blocks", "goals", "found"] (defScope s_living_behind) := ⟨rfl, rfl, rfl, by decide +kernel, rfl, by decide +kernel, by decide +kernel⟩
theorem ok_living_behind {P : Program} {w : World} {K : PySem.W.Frag} {mg : Str → Option Value} {base : Heap} {k : Nat} {c : Nat → FnD} {f_living_behind : Addr} {fd_living_behind : FuncData} (F_living_behind : FnP K "living_behind" s_living_behind f_living_behind fd_living_behind) {f_params_in : Addr} {fd_params_in : FuncData} (F_params_in : FnP K "params_in" s_params_in f_params_in fd_params_in) (G_params_in : mg "params_in" = some (.ref f_params_in)) (O_params_in : FnOk P w K mg base CX0 k f_params_in fd_params_in ["block"] (spD K 1 (c 3))) {f_noted : Addr} {fd_noted : FuncData} (F_noted : FnP K "noted" s_noted f_noted fd_noted) (G_noted : mg "noted" = some (.ref f_noted)) (O_noted : FnOk P w K mg base CX0 k f_noted fd_noted ["names"] (spD K 1 (c 4))) : FnOk P w K mg base CX0 (k + 1) f_living_behind fd_living_behind ["blocks", "goals", "found"] (spD K 3 (bodyD N_living_behind.length (b_living_behind c))) := by
  have B_params_in : Binds K fd_params_in ["block"] [] := F_params_in.bindsN fun _ _ _ _ _ _ us hl => match us, hl with | [_], _ => rfl
  have B_noted : Binds K fd_noted ["names"] [] := F_noted.bindsN fun _ _ _ _ _ _ us hl => match us, hl with | [_], _ => rfl
  refine F_living_behind.ok sc_living_behind (fun vs H Q E h => spD_len h) (fun cdv A outer s H vs Q E hr h => ⟨tDS K (b_living_behind c), PSs.nox ?_, body_ok (by decide) h⟩)
  have nd := sc_living_behind.nd
  have hu1 := hu_of hr
  have hu64 := hu64_of hr
  have hu0 := hu0_of hr
  exact dss_cons (ds_set (i := 3) nd rfl (Or.inl rfl) (de_new))
    (dss_cons (ds_for PassesOwn.never rfl (di_seq (de_var 1)) (dg_name (i := 4) nd rfl (Or.inl rfl)) (dss_cons (ds_set (i := 5) nd rfl (Or.inr rfl) (de_call O_params_in hr rfl G_params_in F_params_in.kp B_params_in (da_cons (de_ix hu1 (de_var 0) (de_var 4)) da_nil)))
    (dss_one (ds_expr (de_update (de_var 3) (de_call O_noted hr rfl G_noted F_noted.kp B_noted (da_cons (de_lock (fd := opF getD (varF 2) (varF 4)) (de_lc (own := [("x", 6)]) rfl nd (di_keys (de_ix hu1 (de_var 2) (de_var 4))) (blkOk_by (N := N_living_behind) (sc := defScope s_living_behind) (by decide +kernel)) (fun _ _ _ _ _ => dgw_name (i := 6) nd rfl (by first | exact Or.inl rfl | exact Or.inr rfl)) (fun _ _ _ _ _ => dts_one (dt_notin hu1 (de_var 6) (de_var 5))) (fun _ _ _ _ _ => de_var 6))) da_nil)))))))
    (dss_one (ds_ret (de_var 3))))
abbrev N_living_ahead : List PySem.Str := (["block", "behind", "alive", "row"] : List PySem.Str)
def b_living_ahead (c : Nat → FnD) : SM := seqS (setS 2 (unF dictD (varF 1)))
  (seqS (exprS (methF isDk updateD (varF 2) (consF (callF 1 (c 4) (consF (callF 1 (c 2) (consF (opF getD (varF 0) (cF (.int 2))) nilF)) nilF)) nilF)))
  (seqS (forS (revI (opF getD (varF 0) (cF (.int 1)))) (nameG 3) (seqS (exprS (pop2F (varF 2) (opF getD (varF 3) (cF (.int 0))) (cF .non)))
  (exprS (methF isDk updateD (varF 2) (consF (callF 1 (c 4) (consF (opF getD (varF 3) (cF (.int 3))) nilF)) nilF)))))
  (retS (varF 2))))
theorem sc_living_ahead : FnScope N_living_ahead ["block", "behind"] (defScope s_living_ahead) := ⟨rfl, rfl, rfl, by decide +kernel, rfl, by decide +kernel, by decide +kernel⟩
theorem ok_living_ahead {P : Program} {w : World} {K : PySem.W.Frag} {mg : Str → Option Value} {base : Heap} {k : Nat} {c : Nat → FnD} {f_living_ahead : Addr} {fd_living_ahead : FuncData} (F_living_ahead : FnP K "living_ahead" s_living_ahead f_living_ahead fd_living_ahead) {f_noted : Addr} {fd_noted : FuncData} (F_noted : FnP K "noted" s_noted f_noted fd_noted) (G_noted : mg "noted" = some (.ref f_noted)) (O_noted : FnOk P w K mg base CX0 k f_noted fd_noted ["names"] (spD K 1 (c 4))) {f_ends_args : Addr} {fd_ends_args : FuncData} (F_ends_args : FnP K "ends_args" s_ends_args f_ends_args fd_ends_args) (G_ends_args : mg "ends_args" = some (.ref f_ends_args)) (O_ends_args : FnOk P w K mg base CX0 k f_ends_args fd_ends_args ["end"] (spD K 1 (c 2))) (n_dict : mg "dict" = none) (n_reversed : mg "reversed" = none) : FnOk P w K mg base CX0 (k + 1) f_living_ahead fd_living_ahead ["block", "behind"] (spD K 2 (bodyD N_living_ahead.length (b_living_ahead c))) := by
  have B_noted : Binds K fd_noted ["names"] [] := F_noted.bindsN fun _ _ _ _ _ _ us hl => match us, hl with | [_], _ => rfl
  have B_ends_args : Binds K fd_ends_args ["end"] [] := F_ends_args.bindsN fun _ _ _ _ _ _ us hl => match us, hl with | [_], _ => rfl
  refine F_living_ahead.ok sc_living_ahead (fun vs H Q E h => spD_len h) (fun cdv A outer s H vs Q E hr h => ⟨tDS K (b_living_ahead c), PSs.nox ?_, body_ok (by decide) h⟩)
  have nd := sc_living_ahead.nd
  have hu1 := hu_of hr
  have hu64 := hu64_of hr
  have hu0 := hu0_of hr
  exact dss_cons (ds_set (i := 2) nd rfl (Or.inl rfl) (de_dict rfl n_dict (de_var 1)))
    (dss_cons (ds_expr (de_update (de_var 2) (de_call O_noted hr rfl G_noted F_noted.kp B_noted (da_cons (de_call O_ends_args hr rfl G_ends_args F_ends_args.kp B_ends_args (da_cons (de_ix hu1 (de_var 0) (de_int)) da_nil)) da_nil))))
    (dss_cons (ds_for PassesOwn.never rfl (di_rev rfl n_reversed (de_ix hu1 (de_var 0) (de_int))) (dg_name (i := 3) nd rfl (Or.inl rfl)) (dss_cons (ds_expr (de_pop2 (de_var 2) (de_ix hu1 (de_var 3) (de_int)) (de_non)))
    (dss_one (ds_expr (de_update (de_var 2) (de_call O_noted hr rfl G_noted F_noted.kp B_noted (da_cons (de_ix hu1 (de_var 3) (de_int)) da_nil)))))))
    (dss_one (ds_ret (de_var 2)))))
abbrev N_living_dicts : List PySem.Str := (["function", "blocks", "goals", "found", "changed", "at", "alive", "block"] : List PySem.Str)
def b_living_dicts (c : Nat → FnD) : SM := seqS (setS 1 (opF getD (varF 0) (cF (.int 2))))
  (seqS (setS 2 (callF 1 (c 1) (consF (varF 0) nilF)))
  (seqS (setS 3 (lcF (seqI (varF 1)) (nameG 7) (yesF) (newF) [7]))
  (seqS (setS 4 (cF (.bl true)))
  (seqS (whileS (tstF (varF 4)) (seqS (setS 4 (cF (.bl false)))
  (forS (revRI (rg1F (unF lenD (varF 1)))) (nameG 5) (seqS (setS 6 (callF 2 (c 6) (consF (opF getD (varF 1) (varF 5)) (consF (callF 3 (c 5) (consF (varF 1) (consF (opF getD (varF 2) (varF 5)) (consF (varF 3) nilF)))) nilF))))
  (ifS (tstF (opF neDicD (varF 6) (opF getD (varF 3) (varF 5)))) (seqS (asgS (varF 6) (subG (varF 3) (varF 5)))
  (setS 4 (cF (.bl true)))) (nextS))))))
  (retS (varF 3))))))
theorem sc_living_dicts : FnScope N_living_dicts ["function"] (defScope s_living_dicts) := ⟨rfl, rfl, rfl, by decide +kernel, rfl, by decide +kernel, by decide +kernel⟩
theorem ok_living_dicts {P : Program} {w : World} {K : PySem.W.Frag} {mg : Str → Option Value} {base : Heap} {k : Nat} {c : Nat → FnD} {f_living_dicts : Addr} {fd_living_dicts : FuncData} (F_living_dicts : FnP K "living_dicts" s_living_dicts f_living_dicts fd_living_dicts) {f_leads : Addr} {fd_leads : FuncData} (F_leads : FnP K "leads" s_leads f_leads fd_leads) (G_leads : mg "leads" = some (.ref f_leads)) (O_leads : FnOk P w K mg base CX0 k f_leads fd_leads ["function"] (spD K 1 (c 1))) {f_living_ahead : Addr} {fd_living_ahead : FuncData} (F_living_ahead : FnP K "living_ahead" s_living_ahead f_living_ahead fd_living_ahead) (G_living_ahead : mg "living_ahead" = some (.ref f_living_ahead)) (O_living_ahead : FnOk P w K mg base CX0 k f_living_ahead fd_living_ahead ["block", "behind"] (spD K 2 (c 6))) {f_living_behind : Addr} {fd_living_behind : FuncData} (F_living_behind : FnP K "living_behind" s_living_behind f_living_behind fd_living_behind) (G_living_behind : mg "living_behind" = some (.ref f_living_behind)) (O_living_behind : FnOk P w K mg base CX0 k f_living_behind fd_living_behind ["blocks", "goals", "found"] (spD K 3 (c 5))) (n_reversed : mg "reversed" = none) (n_range : mg "range" = none) (n_len : mg "len" = none) : FnOk P w K mg base CX0 (k + 1) f_living_dicts fd_living_dicts ["function"] (spD K 1 (bodyD N_living_dicts.length (b_living_dicts c))) := by
  have B_leads : Binds K fd_leads ["function"] [] := F_leads.bindsN fun _ _ _ _ _ _ us hl => match us, hl with | [_], _ => rfl
  have B_living_ahead : Binds K fd_living_ahead ["block", "behind"] [] := F_living_ahead.bindsN fun _ _ _ _ _ _ us hl => match us, hl with | [_, _], _ => rfl
  have B_living_behind : Binds K fd_living_behind ["blocks", "goals", "found"] [] := F_living_behind.bindsN fun _ _ _ _ _ _ us hl => match us, hl with | [_, _, _], _ => rfl
  refine F_living_dicts.ok sc_living_dicts (fun vs H Q E h => spD_len h) (fun cdv A outer s H vs Q E hr h => ⟨tDS K (b_living_dicts c), PSs.nox ?_, body_ok (by decide) h⟩)
  have nd := sc_living_dicts.nd
  have hu1 := hu_of hr
  have hu64 := hu64_of hr
  have hu0 := hu0_of hr
  exact dss_cons (ds_set (i := 1) nd rfl (Or.inl rfl) (de_ix hu1 (de_var 0) (de_int)))
    (dss_cons (ds_set (i := 2) nd rfl (Or.inl rfl) (de_call O_leads hr rfl G_leads F_leads.kp B_leads (da_cons (de_var 0) da_nil)))
    (dss_cons (ds_setLc (own := [("block", 7)]) rfl nd rfl rfl (sw_true rfl rfl rfl (by decide +kernel)) (di_seq (de_var 1)) (blkOk_by (N := N_living_dicts) (sc := defScope s_living_dicts) (by decide +kernel)) (fun _ _ _ _ _ => dgw_name (i := 7) nd rfl (by first | exact Or.inl rfl | exact Or.inr rfl)) (fun _ _ _ _ _ => dts_nil) (fun _ _ _ _ _ => de_new))
    (dss_cons (ds_set (i := 4) nd rfl (Or.inl rfl) (de_bl))
    (dss_cons (ds_while PassesOwn.never (dt_val (de_var 4)) (dss_cons (ds_set (i := 4) nd rfl (Or.inl rfl) (de_bl))
    (dss_one (ds_for PassesOwn.never rfl (di_revR rfl n_reversed (dr_1 rfl n_range (de_len rfl n_len (de_var 1)))) (dg_name (i := 5) nd rfl (Or.inl rfl)) (dss_cons (ds_set (i := 6) nd rfl (Or.inl rfl) (de_call O_living_ahead hr rfl G_living_ahead F_living_ahead.kp B_living_ahead (da_cons (de_ix hu1 (de_var 1) (de_var 5)) (da_cons (de_call O_living_behind hr rfl G_living_behind F_living_behind.kp B_living_behind (da_cons (de_var 1) (da_cons (de_ix hu1 (de_var 2) (de_var 5)) (da_cons (de_var 3) da_nil)))) da_nil))))
    (dss_one (ds_if (dt_neDic hu0 (de_var 6) (de_ix hu1 (de_var 3) (de_var 5))) (dss_cons (ds_asg (de_var 6) (dg_sub hu1 (de_var 3) (de_var 5)))
    (dss_one (ds_set (i := 4) nd rfl (Or.inl rfl) (de_bl)))) (dss_nil))))))))
    (dss_one (ds_ret (de_var 3)))))))
abbrev N_living : List PySem.Str := (["function", "alive"] : List PySem.Str)
def b_living (c : Nat → FnD) : SM := retS (lcF (seqI (callF 1 (c 7) (consF (varF 0) nilF))) (nameG 1) (yesF) (unF sortedD (varF 1)) [1])
theorem sc_living : FnScope N_living ["function"] (defScope s_living) := ⟨rfl, rfl, rfl, by decide +kernel, rfl, by decide +kernel, by decide +kernel⟩
theorem ok_living {P : Program} {w : World} {K : PySem.W.Frag} {mg : Str → Option Value} {base : Heap} {k : Nat} {c : Nat → FnD} {f_living : Addr} {fd_living : FuncData} (F_living : FnP K "living" s_living f_living fd_living) {f_living_dicts : Addr} {fd_living_dicts : FuncData} (F_living_dicts : FnP K "living_dicts" s_living_dicts f_living_dicts fd_living_dicts) (G_living_dicts : mg "living_dicts" = some (.ref f_living_dicts)) (O_living_dicts : FnOk P w K mg base CX0 k f_living_dicts fd_living_dicts ["function"] (spD K 1 (c 7))) (n_sorted : mg "sorted" = none) : FnOk P w K mg base CX0 (k + 1) f_living fd_living ["function"] (spD K 1 (bodyD N_living.length (b_living c))) := by
  have B_living_dicts : Binds K fd_living_dicts ["function"] [] := F_living_dicts.bindsN fun _ _ _ _ _ _ us hl => match us, hl with | [_], _ => rfl
  refine F_living.ok sc_living (fun vs H Q E h => spD_len h) (fun cdv A outer s H vs Q E hr h => ⟨tDS K (b_living c), PSs.nox ?_, body_ok (by decide) h⟩)
  have nd := sc_living.nd
  have hu1 := hu_of hr
  have hu64 := hu64_of hr
  have hu0 := hu0_of hr
  exact dss_one (ds_ret (de_lc (own := [("alive", 1)]) rfl nd (di_seq (de_call O_living_dicts hr rfl G_living_dicts F_living_dicts.kp B_living_dicts (da_cons (de_var 0) da_nil))) (blkOk_by (N := N_living) (sc := defScope s_living) (by decide +kernel)) (fun _ _ _ _ _ => dgw_name (i := 1) nd rfl (by first | exact Or.inl rfl | exact Or.inr rfl)) (fun _ _ _ _ _ => dts_nil) (fun _ _ _ _ _ => de_sorted rfl rfl n_sorted (de_var 1))))
abbrev N__law_pot : List PySem.Str := (["_law_cells", "_law_mixed"] : List PySem.Str)
def b__law_pot (c : Nat → FnD) : SM := seqS (setS 1 (andV (opF (ltD fun i j => decide (j < i)) (unF lenD (varF 0)) (cF (.int 0))) (opF (eqD false) (opF modD (opF getD (varF 0) (cF (.int 0))) (cF (.int 2))) (cF (.int 1)))))
  (retS (dispF [(cF (.str "cells"), unF listD (varF 0)), (cF (.str "at"), cF (.int 0)), (cF (.str "left"), cF (.int 0)), (cF (.str "many"), cF (.int 0)), (cF (.str "mixed"), varF 1)]))
theorem sc__law_pot : FnScope N__law_pot ["_law_cells"] (defScope s__law_pot) := ⟨rfl, rfl, rfl, by decide +kernel, rfl, by decide +kernel, by decide +kernel⟩
theorem ok__law_pot {P : Program} {w : World} {K : PySem.W.Frag} {mg : Str → Option Value} {base : Heap} {k : Nat} {c : Nat → FnD} {f__law_pot : Addr} {fd__law_pot : FuncData} (F__law_pot : FnP K "_law_pot" s__law_pot f__law_pot fd__law_pot) (n_len : mg "len" = none) (n_list : mg "list" = none) : FnOk P w K mg base CX0 (k + 1) f__law_pot fd__law_pot ["_law_cells"] (spD K 1 (bodyD N__law_pot.length (b__law_pot c))) := by
  refine F__law_pot.ok sc__law_pot (fun vs H Q E h => spD_len h) (fun cdv A outer s H vs Q E hr h => ⟨tDS K (b__law_pot c), PSs.nox ?_, body_ok (by decide) h⟩)
  have nd := sc__law_pot.nd
  have hu1 := hu_of hr
  have hu64 := hu64_of hr
  have hu0 := hu0_of hr
  exact dss_cons (ds_set (i := 1) nd rfl (Or.inl rfl) (de_and (de_gt (de_len rfl n_len (de_var 0)) (de_int)) (de_one (de_eq hu64 (de_mod (de_ix hu1 (de_var 0) (de_int)) (de_int)) (de_int)))))
    (dss_one (ds_ret (de_disp [(cF (.str "cells"), unF listD (varF 0)), (cF (.str "at"), cF (.int 0)), (cF (.str "left"), cF (.int 0)), (cF (.str "many"), cF (.int 0)), (cF (.str "mixed"), varF 1)] (pps_cons (de_str) (de_list rfl rfl n_list (de_var 0)) (pps_cons (de_str) (de_int) (pps_cons (de_str) (de_int) (pps_cons (de_str) (de_int) (pps_cons (de_str) (de_var 1) (pps_nil)))))))))
abbrev N__law_mix : List PySem.Str := (["_law_number", "_law_turn", "_law_one"] : List PySem.Str)
def b__law_mix (c : Nat → FnD) : SM := seqS (setS 2 (opF modD (opF mulD (opF addD (opF addD (opF modD (varF 0) (cF (.int 2147483647))) (opF mulD (cF (.int 7)) (varF 1))) (cF (.int 3))) (cF (.int 48271))) (cF (.int 2147483629))))
  (retS (opF modD (opF mulD (varF 2) (varF 2)) (cF (.int 2147483587))))
theorem sc__law_mix : FnScope N__law_mix ["_law_number", "_law_turn"] (defScope s__law_mix) := ⟨rfl, rfl, rfl, by decide +kernel, rfl, by decide +kernel, by decide +kernel⟩
theorem ok__law_mix {P : Program} {w : World} {K : PySem.W.Frag} {mg : Str → Option Value} {base : Heap} {k : Nat} {c : Nat → FnD} {f__law_mix : Addr} {fd__law_mix : FuncData} (F__law_mix : FnP K "_law_mix" s__law_mix f__law_mix fd__law_mix) : FnOk P w K mg base CX0 (k + 1) f__law_mix fd__law_mix ["_law_number", "_law_turn"] (spD K 2 (bodyD N__law_mix.length (b__law_mix c))) := by
  refine F__law_mix.ok sc__law_mix (fun vs H Q E h => spD_len h) (fun cdv A outer s H vs Q E hr h => ⟨tDS K (b__law_mix c), PSs.nox ?_, body_ok (by decide) h⟩)
  have nd := sc__law_mix.nd
  have hu1 := hu_of hr
  have hu64 := hu64_of hr
  have hu0 := hu0_of hr
  exact dss_cons (ds_set (i := 2) nd rfl (Or.inl rfl) (de_mod (de_mul (de_add (de_add (de_mod (de_var 0) (de_int)) (de_mul (de_int) (de_var 1))) (de_int)) (de_int)) (de_int)))
    (dss_one (ds_ret (de_mod (de_mul (de_var 2) (de_var 2)) (de_int))))
abbrev N__law_take : List PySem.Str := (["_law_pot_here", "_law_many", "_law_cells", "_law_told"] : List PySem.Str)
def b__law_take (c : Nat → FnD) : SM := seqS (setS 2 (opF getD (varF 0) (cF (.str "cells"))))
  (seqS (daugS addI (varF 0) (cF (.str "many")) (cF (.int 1)))
  (seqS (ifS (tstF (opF getD (varF 0) (cF (.str "mixed")))) (retS (opF modD (opF fdivD (callF 2 (c 10) (consF (opF getD (varF 2) (opF modD (opF getD (varF 0) (cF (.str "many"))) (unF lenD (varF 2)))) (consF (opF getD (varF 0) (cF (.str "many"))) nilF))) (cF (.int 7))) (varF 1))) (nextS))
  (seqS (ifS (andF (tstF (opF (eqD false) (opF getD (varF 0) (cF (.str "left"))) (cF (.int 0)))) (tstF (opF (ltD fun i j => decide (i < j)) (opF getD (varF 0) (cF (.str "at"))) (unF lenD (varF 2))))) (seqS (asgS (opF modD (unF absD (opF getD (varF 2) (opF getD (varF 0) (cF (.str "at"))))) (opF powD (cF (.int 10)) (cF (.int 60)))) (subG (varF 0) (cF (.str "left"))))
  (daugS addI (varF 0) (cF (.str "at")) (cF (.int 1)))) (nextS))
  (seqS (ifS (tstF (opF (eqD false) (opF getD (varF 0) (cF (.str "left"))) (cF (.int 0)))) (retS (opF modD (opF fdivD (callF 2 (c 10) (consF (unF lenD (varF 2)) (consF (opF getD (varF 0) (cF (.str "many"))) nilF))) (cF (.int 7))) (varF 1))) (nextS))
  (seqS (setS 3 (opF modD (opF getD (varF 0) (cF (.str "left"))) (varF 1)))
  (seqS (asgS (opF fdivD (opF getD (varF 0) (cF (.str "left"))) (varF 1)) (subG (varF 0) (cF (.str "left"))))
  (retS (varF 3))))))))
theorem sc__law_take : FnScope N__law_take ["_law_pot_here", "_law_many"] (defScope s__law_take) := ⟨rfl, rfl, rfl, by decide +kernel, rfl, by decide +kernel, by decide +kernel⟩
theorem ok__law_take {P : Program} {w : World} {K : PySem.W.Frag} {mg : Str → Option Value} {base : Heap} {k : Nat} {c : Nat → FnD} {f__law_take : Addr} {fd__law_take : FuncData} (F__law_take : FnP K "_law_take" s__law_take f__law_take fd__law_take) {f__law_mix : Addr} {fd__law_mix : FuncData} (F__law_mix : FnP K "_law_mix" s__law_mix f__law_mix fd__law_mix) (G__law_mix : mg "_law_mix" = some (.ref f__law_mix)) (O__law_mix : FnOk P w K mg base CX0 k f__law_mix fd__law_mix ["_law_number", "_law_turn"] (spD K 2 (c 10))) (n_len : mg "len" = none) (n_abs : mg "abs" = none) : FnOk P w K mg base CX0 (k + 1) f__law_take fd__law_take ["_law_pot_here", "_law_many"] (spD K 2 (bodyD N__law_take.length (b__law_take c))) := by
  have B__law_mix : Binds K fd__law_mix ["_law_number", "_law_turn"] [] := F__law_mix.bindsN fun _ _ _ _ _ _ us hl => match us, hl with | [_, _], _ => rfl
  refine F__law_take.ok sc__law_take (fun vs H Q E h => spD_len h) (fun cdv A outer s H vs Q E hr h => ⟨tDS K (b__law_take c), PSs.nox ?_, body_ok (by decide) h⟩)
  have nd := sc__law_take.nd
  have hu1 := hu_of hr
  have hu64 := hu64_of hr
  have hu0 := hu0_of hr
  exact dss_cons (ds_set (i := 2) nd rfl (Or.inl rfl) (de_ix hu1 (de_var 0) (de_str)))
    (dss_cons (ds_daug hu1 (de_var 0) (de_str) (de_int) in_add in_addD)
    (dss_cons (ds_if (dt_val (de_ix hu1 (de_var 0) (de_str))) (dss_one (ds_ret (de_mod (de_fdiv (de_call O__law_mix hr rfl G__law_mix F__law_mix.kp B__law_mix (da_cons (de_ix hu1 (de_var 2) (de_mod (de_ix hu1 (de_var 0) (de_str)) (de_len rfl n_len (de_var 2)))) (da_cons (de_ix hu1 (de_var 0) (de_str)) da_nil))) (de_int)) (de_var 1)))) (dss_nil))
    (dss_cons (ds_if (PW.pt (dw_and (dt_eq hu64 (de_ix hu1 (de_var 0) (de_str)) (de_int)) (dw_and1 (dt_lt (de_ix hu1 (de_var 0) (de_str)) (de_len rfl n_len (de_var 2)))))) (dss_cons (ds_asg (de_mod (de_abs rfl n_abs (de_ix hu1 (de_var 2) (de_ix hu1 (de_var 0) (de_str)))) (de_pow (de_int) (de_int))) (dg_sub hu1 (de_var 0) (de_str)))
    (dss_one (ds_daug hu1 (de_var 0) (de_str) (de_int) in_add in_addD))) (dss_nil))
    (dss_cons (ds_if (dt_eq hu64 (de_ix hu1 (de_var 0) (de_str)) (de_int)) (dss_one (ds_ret (de_mod (de_fdiv (de_call O__law_mix hr rfl G__law_mix F__law_mix.kp B__law_mix (da_cons (de_len rfl n_len (de_var 2)) (da_cons (de_ix hu1 (de_var 0) (de_str)) da_nil))) (de_int)) (de_var 1)))) (dss_nil))
    (dss_cons (ds_set (i := 3) nd rfl (Or.inl rfl) (de_mod (de_ix hu1 (de_var 0) (de_str)) (de_var 1)))
    (dss_cons (ds_asg (de_fdiv (de_ix hu1 (de_var 0) (de_str)) (de_var 1)) (dg_sub hu1 (de_var 0) (de_str)))
    (dss_one (ds_ret (de_var 3)))))))))
abbrev N__law_ops : List PySem.Str := ((["_law_state", "_law_number", "_law_truth", "_law_row", "_law_pair", "_law_ops_here", "_law_k", "_law_kind", "_law_name_here", "_law_many", "_law_held", "_law_fun", "_law_op", "_law_told", "_law_n"] : List PySem.Str) ++ (["_law_place"] : List PySem.Str))
def b__law_ops (c : Nat → FnD) : SM := seqS (asgS (tupF (consF (tupF (consF (cF (.str "number")) nilF)) (consF (tupF (consF (cF (.str "truth")) nilF)) (consF (tupF (consF (cF (.str "row")) (consF (tupF (consF (cF (.str "number")) nilF)) nilF))) (consF (tupF (consF (cF (.str "record")) (consF (cF (.str "pair")) nilF))) nilF))))) (tupG 4 (consG (nameG 1) (consG (nameG 2) (consG (nameG 3) (consG (nameG 4) (nilG)))))))
  (seqS (setS 5 (lcF (seqI (tupF (consF (cF (.str "+")) (consF (cF (.str "-")) (consF (cF (.str "*")) (consF (cF (.str "+")) (consF (cF (.str "div")) (consF (cF (.str "rem")) nilF)))))))) (nameG 12) (yesF) (tupF (consF (varF 12) (consF (tupF (consF (varF 1) (consF (varF 1) nilF))) (consF (varF 1) (consF (tupF (nilF)) nilF))))) [12]))
  (seqS (setS 5 (opF addD (varF 5) (lcF (seqI (tupF (consF (cF (.str "<")) (consF (cF (.str "=")) nilF)))) (nameG 12) (yesF) (tupF (consF (varF 12) (consF (tupF (consF (varF 1) (consF (varF 1) nilF))) (consF (varF 2) (consF (tupF (nilF)) nilF))))) [12])))
  (seqS (setS 5 (opF addD (opF addD (varF 5) (lcF (seqI (tupF (consF (cF (.str "and")) (consF (cF (.str "or")) nilF)))) (nameG 12) (yesF) (tupF (consF (varF 12) (consF (tupF (consF (varF 2) (consF (varF 2) nilF))) (consF (varF 2) (consF (tupF (nilF)) nilF))))) [12])) (lstF (consF (tupF (consF (cF (.str "not")) (consF (tupF (consF (varF 2) nilF)) (consF (varF 2) (consF (tupF (nilF)) nilF))))) nilF))))
  (seqS (setS 5 (opF addD (varF 5) (lcF (seqI (tupF (consF (cF (.bl true)) (consF (cF (.bl false)) nilF)))) (nameG 13) (yesF) (tupF (consF (cF (.str "truth")) (consF (tupF (nilF)) (consF (varF 2) (consF (tupF (consF (varF 13) nilF)) nilF))))) [13])))
  (seqS (setS 5 (opF addD (varF 5) (lcF (seqI (tupF (consF (unF negD (cF (.int 1))) (consF (cF (.int 0)) (consF (cF (.int 1)) (consF (cF (.int 2)) (consF (cF (.int 60)) (consF (cF (.int 61)) (consF (cF (.int 2147483647)) (consF (unF negD (cF (.int 2147483648))) nilF)))))))))) (nameG 14) (yesF) (tupF (consF (cF (.str "number")) (consF (tupF (nilF)) (consF (varF 1) (consF (tupF (consF (varF 14) nilF)) nilF))))) [14])))
  (seqS (setS 5 (opF addD (varF 5) (lstF (consF (tupF (consF (cF (.str "fill")) (consF (tupF (consF (cF (.str "few")) (consF (varF 1) nilF))) (consF (varF 3) (consF (tupF (nilF)) nilF))))) (consF (tupF (consF (cF (.str "fill")) (consF (tupF (consF (varF 1) (consF (varF 1) nilF))) (consF (varF 3) (consF (tupF (nilF)) nilF))))) (consF (tupF (consF (cF (.str "long")) (consF (tupF (consF (varF 3) nilF)) (consF (varF 1) (consF (tupF (nilF)) nilF))))) nilF))))))
  (seqS (setS 5 (opF addD (varF 5) (lcF (seqI (tupF (consF (cF (.str "few")) (consF (varF 1) nilF)))) (nameG 15) (yesF) (tupF (consF (cF (.str "get")) (consF (tupF (consF (varF 3) (consF (varF 15) nilF))) (consF (varF 1) (consF (tupF (nilF)) nilF))))) [15])))
  (seqS (setS 5 (opF addD (varF 5) (lcF (seqI (tupF (consF (cF (.str "few")) (consF (varF 1) nilF)))) (nameG 15) (yesF) (tupF (consF (cF (.str "set")) (consF (tupF (consF (varF 3) (consF (varF 15) (consF (varF 1) nilF)))) (consF (cF .non) (consF (tupF (nilF)) nilF))))) [15])))
  (seqS (setS 5 (opF addD (opF addD (varF 5) (lstF (consF (tupF (consF (cF (.str "make")) (consF (opF getD (varF 0) (cF (.str "fields"))) (consF (varF 4) (consF (tupF (consF (cF (.str "pair")) nilF)) nilF))))) nilF))) (opF mulD (lstF (consF (tupF (consF (cF (.str "tell")) (consF (tupF (consF (varF 1) nilF)) (consF (cF .non) (consF (tupF (nilF)) nilF))))) nilF)) (cF (.int 4)))))
  (seqS (forS (enumI (opF getD (varF 0) (cF (.str "fields")))) (tupG 2 (consG (nameG 6) (consG (nameG 7) (nilG)))) (setS 5 (opF addD (varF 5) (lstF (consF (tupF (consF (cF (.str "cell")) (consF (tupF (consF (varF 4) nilF)) (consF (varF 7) (consF (tupF (consF (varF 6) nilF)) nilF))))) (consF (tupF (consF (cF (.str "store")) (consF (tupF (consF (varF 4) (consF (varF 7) nilF))) (consF (cF .non) (consF (tupF (consF (varF 6) nilF)) nilF))))) nilF))))))
  (seqS (forS (seqI (opF getD (varF 0) (cF (.str "calls")))) (tupG 3 (consG (nameG 8) (consG (nameG 9) (consG (nameG 10) (nilG))))) (seqS (setS 11 (tupF (consF (cF (.str "fun")) (consF (opF mulD (tupF (consF (varF 1) nilF)) (opF subD (varF 9) (varF 10))) (consF (varF 1) nilF)))))
  (seqS (setS 5 (opF addD (varF 5) (opF mulD (lstF (consF (tupF (consF (cF (.str "call")) (consF (opF mulD (tupF (consF (varF 1) nilF)) (varF 9)) (consF (varF 1) (consF (tupF (consF (varF 8) nilF)) nilF))))) (consF (tupF (consF (cF (.str "close")) (consF (opF mulD (tupF (consF (varF 1) nilF)) (varF 10)) (consF (varF 11) (consF (tupF (consF (varF 8) nilF)) nilF))))) nilF))) (cF (.int 2)))))
  (setS 5 (opF addD (varF 5) (opF mulD (lstF (consF (tupF (consF (cF (.str "ask")) (consF (opF addD (tupF (consF (varF 11) nilF)) (opF getD (varF 11) (cF (.int 1)))) (consF (varF 1) (consF (tupF (nilF)) nilF))))) nilF)) (cF (.int 2))))))))
  (retS (varF 5)))))))))))))
theorem sc__law_ops : FnScope N__law_ops ["_law_state"] (defScope s__law_ops) := ⟨rfl, rfl, rfl, by decide +kernel, rfl, by decide +kernel, by decide +kernel⟩
theorem ok__law_ops {P : Program} {w : World} {K : PySem.W.Frag} {mg : Str → Option Value} {base : Heap} {k : Nat} {c : Nat → FnD} {f__law_ops : Addr} {fd__law_ops : FuncData} (F__law_ops : FnP K "_law_ops" s__law_ops f__law_ops fd__law_ops) (n_enumerate : mg "enumerate" = none) : FnOk P w K mg base CX0 (k + 1) f__law_ops fd__law_ops ["_law_state"] (spD K 1 (bodyD N__law_ops.length (b__law_ops c))) := by
  refine F__law_ops.ok sc__law_ops (fun vs H Q E h => spD_len h) (fun cdv A outer s H vs Q E hr h => ⟨tDS K (b__law_ops c), PSs.nox ?_, body_ok (by decide) h⟩)
  have nd := sc__law_ops.nd
  have hu1 := hu_of hr
  have hu64 := hu64_of hr
  have hu0 := hu0_of hr
  exact dss_cons (ds_asg (de_tup (da_cons (de_tup (da_cons (de_str) da_nil)) (da_cons (de_tup (da_cons (de_str) da_nil)) (da_cons (de_tup (da_cons (de_str) (da_cons (de_tup (da_cons (de_str) da_nil)) da_nil))) (da_cons (de_tup (da_cons (de_str) (da_cons (de_str) da_nil))) da_nil))))) (dg_tup rfl (dgs_cons (dg_name (i := 1) nd rfl (Or.inr rfl)) (dgs_cons (dg_name (i := 2) nd rfl (Or.inr rfl)) (dgs_cons (dg_name (i := 3) nd rfl (Or.inr rfl)) (dgs_cons (dg_name (i := 4) nd rfl (Or.inl rfl)) (dgs_nil)))))))
    (dss_cons (ds_setLc (own := [("_law_op", 12)]) rfl nd rfl rfl (sw_true rfl rfl rfl (by decide +kernel)) (di_seq (de_tup (da_cons (de_str) (da_cons (de_str) (da_cons (de_str) (da_cons (de_str) (da_cons (de_str) (da_cons (de_str) da_nil)))))))) (blkOk_by (N := N__law_ops) (sc := defScope s__law_ops) (by decide +kernel)) (fun _ _ _ _ _ => dgw_name (i := 12) nd rfl (by first | exact Or.inl rfl | exact Or.inr rfl)) (fun _ _ _ _ _ => dts_nil) (fun _ _ _ _ _ => de_tup (da_cons (de_var 12) (da_cons (de_tup (da_cons (de_var 1) (da_cons (de_var 1) da_nil))) (da_cons (de_var 1) (da_cons (de_tup (da_nil)) da_nil))))))
    (dss_cons (ds_set (i := 5) nd rfl (Or.inl rfl) (de_add (de_var 5) (de_lc (own := [("_law_op", 12)]) rfl nd (di_seq (de_tup (da_cons (de_str) (da_cons (de_str) da_nil)))) (blkOk_by (N := N__law_ops) (sc := defScope s__law_ops) (by decide +kernel)) (fun _ _ _ _ _ => dgw_name (i := 12) nd rfl (by first | exact Or.inl rfl | exact Or.inr rfl)) (fun _ _ _ _ _ => dts_nil) (fun _ _ _ _ _ => de_tup (da_cons (de_var 12) (da_cons (de_tup (da_cons (de_var 1) (da_cons (de_var 1) da_nil))) (da_cons (de_var 2) (da_cons (de_tup (da_nil)) da_nil))))))))
    (dss_cons (ds_set (i := 5) nd rfl (Or.inl rfl) (de_add (de_add (de_var 5) (de_lc (own := [("_law_op", 12)]) rfl nd (di_seq (de_tup (da_cons (de_str) (da_cons (de_str) da_nil)))) (blkOk_by (N := N__law_ops) (sc := defScope s__law_ops) (by decide +kernel)) (fun _ _ _ _ _ => dgw_name (i := 12) nd rfl (by first | exact Or.inl rfl | exact Or.inr rfl)) (fun _ _ _ _ _ => dts_nil) (fun _ _ _ _ _ => de_tup (da_cons (de_var 12) (da_cons (de_tup (da_cons (de_var 2) (da_cons (de_var 2) da_nil))) (da_cons (de_var 2) (da_cons (de_tup (da_nil)) da_nil))))))) (de_lst (da_cons (de_tup (da_cons (de_str) (da_cons (de_tup (da_cons (de_var 2) da_nil)) (da_cons (de_var 2) (da_cons (de_tup (da_nil)) da_nil))))) da_nil))))
    (dss_cons (ds_set (i := 5) nd rfl (Or.inl rfl) (de_add (de_var 5) (de_lc (own := [("_law_told", 13)]) rfl nd (di_seq (de_tup (da_cons (de_bl) (da_cons (de_bl) da_nil)))) (blkOk_by (N := N__law_ops) (sc := defScope s__law_ops) (by decide +kernel)) (fun _ _ _ _ _ => dgw_name (i := 13) nd rfl (by first | exact Or.inl rfl | exact Or.inr rfl)) (fun _ _ _ _ _ => dts_nil) (fun _ _ _ _ _ => de_tup (da_cons (de_str) (da_cons (de_tup (da_nil)) (da_cons (de_var 2) (da_cons (de_tup (da_cons (de_var 13) da_nil)) da_nil))))))))
    (dss_cons (ds_set (i := 5) nd rfl (Or.inl rfl) (de_add (de_var 5) (de_lc (own := [("_law_n", 14)]) rfl nd (di_seq (de_tup (da_cons (de_neg (de_int)) (da_cons (de_int) (da_cons (de_int) (da_cons (de_int) (da_cons (de_int) (da_cons (de_int) (da_cons (de_int) (da_cons (de_neg (de_int)) da_nil)))))))))) (blkOk_by (N := N__law_ops) (sc := defScope s__law_ops) (by decide +kernel)) (fun _ _ _ _ _ => dgw_name (i := 14) nd rfl (by first | exact Or.inl rfl | exact Or.inr rfl)) (fun _ _ _ _ _ => dts_nil) (fun _ _ _ _ _ => de_tup (da_cons (de_str) (da_cons (de_tup (da_nil)) (da_cons (de_var 1) (da_cons (de_tup (da_cons (de_var 14) da_nil)) da_nil))))))))
    (dss_cons (ds_set (i := 5) nd rfl (Or.inl rfl) (de_add (de_var 5) (de_lst (da_cons (de_tup (da_cons (de_str) (da_cons (de_tup (da_cons (de_str) (da_cons (de_var 1) da_nil))) (da_cons (de_var 3) (da_cons (de_tup (da_nil)) da_nil))))) (da_cons (de_tup (da_cons (de_str) (da_cons (de_tup (da_cons (de_var 1) (da_cons (de_var 1) da_nil))) (da_cons (de_var 3) (da_cons (de_tup (da_nil)) da_nil))))) (da_cons (de_tup (da_cons (de_str) (da_cons (de_tup (da_cons (de_var 3) da_nil)) (da_cons (de_var 1) (da_cons (de_tup (da_nil)) da_nil))))) da_nil))))))
    (dss_cons (ds_set (i := 5) nd rfl (Or.inl rfl) (de_add (de_var 5) (de_lc (own := [("_law_place", 15)]) rfl nd (di_seq (de_tup (da_cons (de_str) (da_cons (de_var 1) da_nil)))) (blkOk_by (N := N__law_ops) (sc := defScope s__law_ops) (by decide +kernel)) (fun _ _ _ _ _ => dgw_name (i := 15) nd rfl (by first | exact Or.inl rfl | exact Or.inr rfl)) (fun _ _ _ _ _ => dts_nil) (fun _ _ _ _ _ => de_tup (da_cons (de_str) (da_cons (de_tup (da_cons (de_var 3) (da_cons (de_var 15) da_nil))) (da_cons (de_var 1) (da_cons (de_tup (da_nil)) da_nil))))))))
    (dss_cons (ds_set (i := 5) nd rfl (Or.inl rfl) (de_add (de_var 5) (de_lc (own := [("_law_place", 15)]) rfl nd (di_seq (de_tup (da_cons (de_str) (da_cons (de_var 1) da_nil)))) (blkOk_by (N := N__law_ops) (sc := defScope s__law_ops) (by decide +kernel)) (fun _ _ _ _ _ => dgw_name (i := 15) nd rfl (by first | exact Or.inl rfl | exact Or.inr rfl)) (fun _ _ _ _ _ => dts_nil) (fun _ _ _ _ _ => de_tup (da_cons (de_str) (da_cons (de_tup (da_cons (de_var 3) (da_cons (de_var 15) (da_cons (de_var 1) da_nil)))) (da_cons (de_non) (da_cons (de_tup (da_nil)) da_nil))))))))
    (dss_cons (ds_set (i := 5) nd rfl (Or.inl rfl) (de_add (de_add (de_var 5) (de_lst (da_cons (de_tup (da_cons (de_str) (da_cons (de_ix hu1 (de_var 0) (de_str)) (da_cons (de_var 4) (da_cons (de_tup (da_cons (de_str) da_nil)) da_nil))))) da_nil))) (de_mul (de_lst (da_cons (de_tup (da_cons (de_str) (da_cons (de_tup (da_cons (de_var 1) da_nil)) (da_cons (de_non) (da_cons (de_tup (da_nil)) da_nil))))) da_nil)) (de_int))))
    (dss_cons (ds_for PassesOwn.never rfl (di_enum rfl n_enumerate (de_ix hu1 (de_var 0) (de_str))) (dg_tup rfl (dgs_cons (dg_name (i := 6) nd rfl (Or.inl rfl)) (dgs_cons (dg_name (i := 7) nd rfl (Or.inl rfl)) (dgs_nil)))) (dss_one (ds_set (i := 5) nd rfl (Or.inl rfl) (de_add (de_var 5) (de_lst (da_cons (de_tup (da_cons (de_str) (da_cons (de_tup (da_cons (de_var 4) da_nil)) (da_cons (de_var 7) (da_cons (de_tup (da_cons (de_var 6) da_nil)) da_nil))))) (da_cons (de_tup (da_cons (de_str) (da_cons (de_tup (da_cons (de_var 4) (da_cons (de_var 7) da_nil))) (da_cons (de_non) (da_cons (de_tup (da_cons (de_var 6) da_nil)) da_nil))))) da_nil)))))))
    (dss_cons (ds_for PassesOwn.never rfl (di_seq (de_ix hu1 (de_var 0) (de_str))) (dg_tup rfl (dgs_cons (dg_name (i := 8) nd rfl (Or.inl rfl)) (dgs_cons (dg_name (i := 9) nd rfl (Or.inl rfl)) (dgs_cons (dg_name (i := 10) nd rfl (Or.inl rfl)) (dgs_nil))))) (dss_cons (ds_set (i := 11) nd rfl (Or.inl rfl) (de_tup (da_cons (de_str) (da_cons (de_mul (de_tup (da_cons (de_var 1) da_nil)) (de_sub (de_var 9) (de_var 10))) (da_cons (de_var 1) da_nil)))))
    (dss_cons (ds_set (i := 5) nd rfl (Or.inl rfl) (de_add (de_var 5) (de_mul (de_lst (da_cons (de_tup (da_cons (de_str) (da_cons (de_mul (de_tup (da_cons (de_var 1) da_nil)) (de_var 9)) (da_cons (de_var 1) (da_cons (de_tup (da_cons (de_var 8) da_nil)) da_nil))))) (da_cons (de_tup (da_cons (de_str) (da_cons (de_mul (de_tup (da_cons (de_var 1) da_nil)) (de_var 10)) (da_cons (de_var 11) (da_cons (de_tup (da_cons (de_var 8) da_nil)) da_nil))))) da_nil))) (de_int))))
    (dss_one (ds_set (i := 5) nd rfl (Or.inl rfl) (de_add (de_var 5) (de_mul (de_lst (da_cons (de_tup (da_cons (de_str) (da_cons (de_add (de_tup (da_cons (de_var 11) da_nil)) (de_ix hu1 (de_var 11) (de_int))) (da_cons (de_var 1) (da_cons (de_tup (da_nil)) da_nil))))) da_nil)) (de_int))))))))
    (dss_one (ds_ret (de_var 5))))))))))))))
abbrev N__law_put : List PySem.Str := (["_law_state", "_law_kind", "_law_op", "_law_args", "_law_more", "_law_x"] : List PySem.Str)
def b__law_put (c : Nat → FnD) : SM := seqS (setS 5 (cF .non))
  (seqS (ifS (tstF (opF (isND true) (varF 1) (cF .non))) (seqS (setS 5 (opF getD (varF 0) (cF (.str "next"))))
  (seqS (daugS addI (varF 0) (cF (.str "next")) (cF (.int 1)))
  (exprS (methF isL appendD (opF getD (varF 0) (cF (.str "env"))) (consF (tupF (consF (varF 5) (consF (varF 1) nilF))) nilF))))) (nextS))
  (seqS (daugS addI (varF 0) (cF (.str "line")) (cF (.int 1)))
  (seqS (exprS (methF isL appendD (opF getD (varF 0) (cF (.str "rows"))) (consF (tupF (consF (varF 5) (consF (varF 1) (consF (varF 2) (consF (unF tupleD (varF 3)) (consF (varF 4) (consF (opF getD (varF 0) (cF (.str "line"))) nilF))))))) nilF)))
  (retS (varF 5)))))
theorem sc__law_put : FnScope N__law_put ["_law_state", "_law_kind", "_law_op", "_law_args", "_law_more"] (defScope s__law_put) := ⟨rfl, rfl, rfl, by decide +kernel, rfl, by decide +kernel, by decide +kernel⟩
theorem ok__law_put {P : Program} {w : World} {K : PySem.W.Frag} {mg : Str → Option Value} {base : Heap} {k : Nat} {c : Nat → FnD} {f__law_put : Addr} {fd__law_put : FuncData} (F__law_put : FnP K "_law_put" s__law_put f__law_put fd__law_put) (n_tuple : mg "tuple" = none) : FnOk P w K mg base CX0 (k + 1) f__law_put fd__law_put ["_law_state", "_law_kind", "_law_op", "_law_args", "_law_more"] (spD K 5 (bodyD N__law_put.length (b__law_put c))) := by
  refine F__law_put.ok sc__law_put (fun vs H Q E h => spD_len h) (fun cdv A outer s H vs Q E hr h => ⟨tDS K (b__law_put c), PSs.nox ?_, body_ok (by decide) h⟩)
  have nd := sc__law_put.nd
  have hu1 := hu_of hr
  have hu64 := hu64_of hr
  have hu0 := hu0_of hr
  exact dss_cons (ds_set (i := 5) nd rfl (Or.inl rfl) (de_non))
    (dss_cons (ds_if (dt_isnot (de_var 1) (de_non)) (dss_cons (ds_set (i := 5) nd rfl (Or.inl rfl) (de_ix hu1 (de_var 0) (de_str)))
    (dss_cons (ds_daug hu1 (de_var 0) (de_str) (de_int) in_add in_addD)
    (dss_one (ds_expr (de_append (de_ix hu1 (de_var 0) (de_str)) (de_tup (da_cons (de_var 5) (da_cons (de_var 1) da_nil)))))))) (dss_nil))
    (dss_cons (ds_daug hu1 (de_var 0) (de_str) (de_int) in_add in_addD)
    (dss_cons (ds_expr (de_append (de_ix hu1 (de_var 0) (de_str)) (de_tup (da_cons (de_var 5) (da_cons (de_var 1) (da_cons (de_var 2) (da_cons (de_tuple rfl n_tuple (de_var 3)) (da_cons (de_var 4) (da_cons (de_ix hu1 (de_var 0) (de_str)) da_nil)))))))))
    (dss_one (ds_ret (de_var 5))))))
abbrev N__law_name : List PySem.Str := (["_law_state", "_law_pot_here", "_law_kind", "_law_number", "_law_some", "_law_name_here", "_law_many", "_law_held", "_law_x", "_law_have", "_law_one", "_law_k"] : List PySem.Str)
def b__law_name (c : Nat → FnD) : SM := seqS (setS 3 (tupF (consF (cF (.str "number")) nilF)))
  (seqS (setS 4 (lcF (seqI (opF getD (varF 0) (cF (.str "env")))) (tupG 2 (consG (nameG 8) (consG (nameG 9) (nilG)))) (tstF (opF (eqD false) (varF 9) (varF 2))) (varF 8) [8, 9]))
  (seqS (ifS (tstF (opF (eqD true) (varF 4) (lstF (nilF)))) (retS (opF getD (varF 4) (opF subD (opF subD (unF lenD (varF 4)) (cF (.int 1))) (callF 2 (c 11) (consF (varF 1) (consF (unF lenD (varF 4)) nilF)))))) (nextS))
  (seqS (ifS (tstF (opF (eqD false) (varF 2) (cF (.str "few")))) (retS (callF 5 (c 13) (consF (varF 0) (consF (varF 3) (consF (cF (.str "number")) (consF (tupF (nilF)) (consF (tupF (consF (callF 2 (c 11) (consF (varF 1) (consF (cF (.int 4)) nilF))) nilF)) nilF))))))) (nextS))
  (seqS (ifS (tstF (opF (eqD false) (varF 2) (tupF (consF (cF (.str "truth")) nilF)))) (retS (callF 5 (c 13) (consF (varF 0) (consF (varF 2) (consF (cF (.str "truth")) (consF (tupF (nilF)) (consF (tupF (consF (cF (.bl true)) nilF)) nilF))))))) (nextS))
  (seqS (ifS (tstF (opF (eqD false) (opF getD (varF 2) (cF (.int 0))) (cF (.str "record")))) (retS (callF 5 (c 13) (consF (varF 0) (consF (varF 2) (consF (cF (.str "make")) (consF (lcF (seqI (opF getD (varF 0) (cF (.str "fields")))) (nameG 10) (yesF) (callF 3 (c 14) (consF (varF 0) (consF (varF 1) (consF (varF 10) nilF)))) [10]) (consF (tupF (consF (cF (.str "pair")) nilF)) nilF))))))) (nextS))
  (seqS (ifS (tstF (opF (eqD false) (opF getD (varF 2) (cF (.int 0))) (cF (.str "row")))) (retS (callF 5 (c 13) (consF (varF 0) (consF (varF 2) (consF (cF (.str "fill")) (consF (lcF (seqI (tupF (consF (cF (.int 0)) (consF (cF (.int 1)) nilF)))) (nameG 10) (yesF) (callF 3 (c 14) (consF (varF 0) (consF (varF 1) (consF (cF (.str "few")) nilF)))) [10]) (consF (tupF (nilF)) nilF))))))) (nextS))
  (seqS (ifS (tstF (opF (eqD false) (opF getD (varF 2) (cF (.int 0))) (cF (.str "fun")))) (seqS (asgS (opF getD (lcF (seqI (opF getD (varF 0) (cF (.str "calls")))) (nameG 10) (tstF (opF (eqD false) (opF subD (opF getD (varF 10) (cF (.int 1))) (opF getD (varF 10) (cF (.int 2)))) (unF lenD (opF getD (varF 2) (cF (.int 1)))))) (varF 10) [10]) (cF (.int 0))) (tupG 3 (consG (nameG 5) (consG (nameG 6) (consG (nameG 7) (nilG))))))
  (retS (callF 5 (c 13) (consF (varF 0) (consF (varF 2) (consF (cF (.str "close")) (consF (lcF (rng1I (varF 7)) (nameG 11) (yesF) (callF 3 (c 14) (consF (varF 0) (consF (varF 1) (consF (varF 3) nilF)))) [11]) (consF (tupF (consF (varF 5) nilF)) nilF)))))))) (nextS))
  (retS (callF 5 (c 13) (consF (varF 0) (consF (varF 3) (consF (cF (.str "number")) (consF (tupF (nilF)) (consF (tupF (consF (cF (.int 7)) nilF)) nilF))))))))))))))
theorem sc__law_name : FnScope N__law_name ["_law_state", "_law_pot_here", "_law_kind"] (defScope s__law_name) := ⟨rfl, rfl, rfl, by decide +kernel, rfl, by decide +kernel, by decide +kernel⟩
theorem ok__law_name {P : Program} {w : World} {K : PySem.W.Frag} {mg : Str → Option Value} {base : Heap} {k : Nat} {c : Nat → FnD} {f__law_name : Addr} {fd__law_name : FuncData} (F__law_name : FnP K "_law_name" s__law_name f__law_name fd__law_name) (G__law_name : mg "_law_name" = some (.ref f__law_name)) {f__law_take : Addr} {fd__law_take : FuncData} (F__law_take : FnP K "_law_take" s__law_take f__law_take fd__law_take) (G__law_take : mg "_law_take" = some (.ref f__law_take)) (O__law_take : FnOk P w K mg base CX0 k f__law_take fd__law_take ["_law_pot_here", "_law_many"] (spD K 2 (c 11))) {f__law_put : Addr} {fd__law_put : FuncData} (F__law_put : FnP K "_law_put" s__law_put f__law_put fd__law_put) (G__law_put : mg "_law_put" = some (.ref f__law_put)) (O__law_put : FnOk P w K mg base CX0 k f__law_put fd__law_put ["_law_state", "_law_kind", "_law_op", "_law_args", "_law_more"] (spD K 5 (c 13))) (O__law_name : FnOk P w K mg base CX0 k f__law_name fd__law_name ["_law_state", "_law_pot_here", "_law_kind"] (spD K 3 (c 14))) (n_len : mg "len" = none) (n_range : mg "range" = none) : FnOk P w K mg base CX0 (k + 1) f__law_name fd__law_name ["_law_state", "_law_pot_here", "_law_kind"] (spD K 3 (bodyD N__law_name.length (b__law_name c))) := by
  have B__law_take : Binds K fd__law_take ["_law_pot_here", "_law_many"] [] := F__law_take.bindsN fun _ _ _ _ _ _ us hl => match us, hl with | [_, _], _ => rfl
  have B__law_put : Binds K fd__law_put ["_law_state", "_law_kind", "_law_op", "_law_args", "_law_more"] [] := F__law_put.bindsN fun _ _ _ _ _ _ us hl => match us, hl with | [_, _, _, _, _], _ => rfl
  have B__law_name : Binds K fd__law_name ["_law_state", "_law_pot_here", "_law_kind"] [] := F__law_name.bindsN fun _ _ _ _ _ _ us hl => match us, hl with | [_, _, _], _ => rfl
  refine F__law_name.ok sc__law_name (fun vs H Q E h => spD_len h) (fun cdv A outer s H vs Q E hr h => ⟨tDS K (b__law_name c), PSs.nox ?_, body_ok (by decide) h⟩)
  have nd := sc__law_name.nd
  have hu1 := hu_of hr
  have hu64 := hu64_of hr
  have hu0 := hu0_of hr
  exact dss_cons (ds_set (i := 3) nd rfl (Or.inr rfl) (de_tup (da_cons (de_str) da_nil)))
    (dss_cons (ds_setLc (own := [("_law_x", 8), ("_law_have", 9)]) rfl nd rfl rfl (sw_true rfl rfl rfl (by decide +kernel)) (di_seq (de_ix hu1 (de_var 0) (de_str))) (blkOk_by (N := N__law_name) (sc := defScope s__law_name) (by decide +kernel)) (fun _ _ _ _ _ => dgw_tup rfl (dgsw_cons (dgw_name (i := 8) nd rfl (by first | exact Or.inl rfl | exact Or.inr rfl)) (dgsw_cons (dgw_name (i := 9) nd rfl (by first | exact Or.inl rfl | exact Or.inr rfl)) (dgsw_nil)))) (fun _ _ _ _ _ => dts_one (dt_eq hu64 (de_var 9) (de_var 2))) (fun _ _ _ _ _ => de_var 8))
    (dss_cons (ds_if (dt_ne hu64 (de_var 4) (de_lst (da_nil))) (dss_one (ds_ret (de_ix hu1 (de_var 4) (de_sub (de_sub (de_len rfl n_len (de_var 4)) (de_int)) (de_call O__law_take hr rfl G__law_take F__law_take.kp B__law_take (da_cons (de_var 1) (da_cons (de_len rfl n_len (de_var 4)) da_nil))))))) (dss_nil))
    (dss_cons (ds_if (dt_eq hu64 (de_var 2) (de_str)) (dss_one (ds_ret (de_call O__law_put hr rfl G__law_put F__law_put.kp B__law_put (da_cons (de_var 0) (da_cons (de_var 3) (da_cons (de_str) (da_cons (de_tup (da_nil)) (da_cons (de_tup (da_cons (de_call O__law_take hr rfl G__law_take F__law_take.kp B__law_take (da_cons (de_var 1) (da_cons (de_int) da_nil))) da_nil)) da_nil)))))))) (dss_nil))
    (dss_cons (ds_if (dt_eq hu64 (de_var 2) (de_tup (da_cons (de_str) da_nil))) (dss_one (ds_ret (de_call O__law_put hr rfl G__law_put F__law_put.kp B__law_put (da_cons (de_var 0) (da_cons (de_var 2) (da_cons (de_str) (da_cons (de_tup (da_nil)) (da_cons (de_tup (da_cons (de_bl) da_nil)) da_nil)))))))) (dss_nil))
    (dss_cons (ds_if (dt_eq hu64 (de_ix hu1 (de_var 2) (de_int)) (de_str)) (dss_one (ds_ret (de_call O__law_put hr rfl G__law_put F__law_put.kp B__law_put (da_cons (de_var 0) (da_cons (de_var 2) (da_cons (de_str) (da_cons (de_lc (own := [("_law_one", 10)]) rfl nd (di_seq (de_ix hu1 (de_var 0) (de_str))) (blkOk_by (N := N__law_name) (sc := defScope s__law_name) (by decide +kernel)) (fun _ _ _ _ _ => dgw_name (i := 10) nd rfl (by first | exact Or.inl rfl | exact Or.inr rfl)) (fun _ _ _ _ _ => dts_nil) (fun _ _ _ _ _ => de_call O__law_name hr rfl G__law_name F__law_name.kp B__law_name (da_cons (de_var 0) (da_cons (de_var 1) (da_cons (de_var 10) da_nil))))) (da_cons (de_tup (da_cons (de_str) da_nil)) da_nil)))))))) (dss_nil))
    (dss_cons (ds_if (dt_eq hu64 (de_ix hu1 (de_var 2) (de_int)) (de_str)) (dss_one (ds_ret (de_call O__law_put hr rfl G__law_put F__law_put.kp B__law_put (da_cons (de_var 0) (da_cons (de_var 2) (da_cons (de_str) (da_cons (de_lc (own := [("_law_one", 10)]) rfl nd (di_seq (de_tup (da_cons (de_int) (da_cons (de_int) da_nil)))) (blkOk_by (N := N__law_name) (sc := defScope s__law_name) (by decide +kernel)) (fun _ _ _ _ _ => dgw_name (i := 10) nd rfl (by first | exact Or.inl rfl | exact Or.inr rfl)) (fun _ _ _ _ _ => dts_nil) (fun _ _ _ _ _ => de_call O__law_name hr rfl G__law_name F__law_name.kp B__law_name (da_cons (de_var 0) (da_cons (de_var 1) (da_cons (de_str) da_nil))))) (da_cons (de_tup (da_nil)) da_nil)))))))) (dss_nil))
    (dss_cons (ds_if (dt_eq hu64 (de_ix hu1 (de_var 2) (de_int)) (de_str)) (dss_cons (ds_asg (de_ix hu1 (de_lc (own := [("_law_one", 10)]) rfl nd (di_seq (de_ix hu1 (de_var 0) (de_str))) (blkOk_by (N := N__law_name) (sc := defScope s__law_name) (by decide +kernel)) (fun _ _ _ _ _ => dgw_name (i := 10) nd rfl (by first | exact Or.inl rfl | exact Or.inr rfl)) (fun _ _ _ _ _ => dts_one (dt_eq hu64 (de_sub (de_ix hu1 (de_var 10) (de_int)) (de_ix hu1 (de_var 10) (de_int))) (de_len rfl n_len (de_ix hu1 (de_var 2) (de_int))))) (fun _ _ _ _ _ => de_var 10)) (de_int)) (dg_tup rfl (dgs_cons (dg_name (i := 5) nd rfl (Or.inl rfl)) (dgs_cons (dg_name (i := 6) nd rfl (Or.inl rfl)) (dgs_cons (dg_name (i := 7) nd rfl (Or.inl rfl)) (dgs_nil))))))
    (dss_one (ds_ret (de_call O__law_put hr rfl G__law_put F__law_put.kp B__law_put (da_cons (de_var 0) (da_cons (de_var 2) (da_cons (de_str) (da_cons (de_lc (own := [("_law_k", 11)]) rfl nd (di_rng1 rfl n_range (de_var 7)) (blkOk_by (N := N__law_name) (sc := defScope s__law_name) (by decide +kernel)) (fun _ _ _ _ _ => dgw_name (i := 11) nd rfl (by first | exact Or.inl rfl | exact Or.inr rfl)) (fun _ _ _ _ _ => dts_nil) (fun _ _ _ _ _ => de_call O__law_name hr rfl G__law_name F__law_name.kp B__law_name (da_cons (de_var 0) (da_cons (de_var 1) (da_cons (de_var 3) da_nil))))) (da_cons (de_tup (da_cons (de_var 5) da_nil)) da_nil))))))))) (dss_nil))
    (dss_one (ds_ret (de_call O__law_put hr rfl G__law_put F__law_put.kp B__law_put (da_cons (de_var 0) (da_cons (de_var 3) (da_cons (de_str) (da_cons (de_tup (da_nil)) (da_cons (de_tup (da_cons (de_int) da_nil)) da_nil)))))))))))))))
abbrev N__law_straight : List PySem.Str := (["_law_state", "_law_pot_here", "_law_ops_here", "_law_k", "_law_op", "_law_kinds", "_law_kind", "_law_more", "_law_one"] : List PySem.Str)
def b__law_straight (c : Nat → FnD) : SM := seqS (setS 2 (callF 1 (c 12) (consF (varF 0) nilF)))
  (forS (rng1I (opF addD (cF (.int 1)) (callF 2 (c 11) (consF (varF 1) (consF (cF (.int 4)) nilF))))) (nameG 3) (seqS (asgS (opF getD (varF 2) (callF 2 (c 11) (consF (varF 1) (consF (unF lenD (varF 2)) nilF)))) (tupG 4 (consG (nameG 4) (consG (nameG 5) (consG (nameG 6) (consG (nameG 7) (nilG)))))))
  (ifS (tstF (opF (ltD fun i j => decide (i < j)) (opF getD (varF 0) (cF (.str "line"))) (opF getD (varF 0) (cF (.str "most"))))) (exprS (callF 5 (c 13) (consF (varF 0) (consF (varF 6) (consF (varF 4) (consF (lcF (seqI (varF 5)) (nameG 8) (yesF) (callF 3 (c 14) (consF (varF 0) (consF (varF 1) (consF (varF 8) nilF)))) [8]) (consF (varF 7) nilF))))))) (nextS))))
theorem sc__law_straight : FnScope N__law_straight ["_law_state", "_law_pot_here"] (defScope s__law_straight) := ⟨rfl, rfl, rfl, by decide +kernel, rfl, by decide +kernel, by decide +kernel⟩
theorem ok__law_straight {P : Program} {w : World} {K : PySem.W.Frag} {mg : Str → Option Value} {base : Heap} {k : Nat} {c : Nat → FnD} {f__law_straight : Addr} {fd__law_straight : FuncData} (F__law_straight : FnP K "_law_straight" s__law_straight f__law_straight fd__law_straight) {f__law_ops : Addr} {fd__law_ops : FuncData} (F__law_ops : FnP K "_law_ops" s__law_ops f__law_ops fd__law_ops) (G__law_ops : mg "_law_ops" = some (.ref f__law_ops)) (O__law_ops : FnOk P w K mg base CX0 k f__law_ops fd__law_ops ["_law_state"] (spD K 1 (c 12))) {f__law_take : Addr} {fd__law_take : FuncData} (F__law_take : FnP K "_law_take" s__law_take f__law_take fd__law_take) (G__law_take : mg "_law_take" = some (.ref f__law_take)) (O__law_take : FnOk P w K mg base CX0 k f__law_take fd__law_take ["_law_pot_here", "_law_many"] (spD K 2 (c 11))) {f__law_put : Addr} {fd__law_put : FuncData} (F__law_put : FnP K "_law_put" s__law_put f__law_put fd__law_put) (G__law_put : mg "_law_put" = some (.ref f__law_put)) (O__law_put : FnOk P w K mg base CX0 k f__law_put fd__law_put ["_law_state", "_law_kind", "_law_op", "_law_args", "_law_more"] (spD K 5 (c 13))) {f__law_name : Addr} {fd__law_name : FuncData} (F__law_name : FnP K "_law_name" s__law_name f__law_name fd__law_name) (G__law_name : mg "_law_name" = some (.ref f__law_name)) (O__law_name : FnOk P w K mg base CX0 k f__law_name fd__law_name ["_law_state", "_law_pot_here", "_law_kind"] (spD K 3 (c 14))) (n_range : mg "range" = none) (n_len : mg "len" = none) : FnOk P w K mg base CX0 (k + 1) f__law_straight fd__law_straight ["_law_state", "_law_pot_here"] (spD K 2 (bodyD N__law_straight.length (b__law_straight c))) := by
  have B__law_ops : Binds K fd__law_ops ["_law_state"] [] := F__law_ops.bindsN fun _ _ _ _ _ _ us hl => match us, hl with | [_], _ => rfl
  have B__law_take : Binds K fd__law_take ["_law_pot_here", "_law_many"] [] := F__law_take.bindsN fun _ _ _ _ _ _ us hl => match us, hl with | [_, _], _ => rfl
  have B__law_put : Binds K fd__law_put ["_law_state", "_law_kind", "_law_op", "_law_args", "_law_more"] [] := F__law_put.bindsN fun _ _ _ _ _ _ us hl => match us, hl with | [_, _, _, _, _], _ => rfl
  have B__law_name : Binds K fd__law_name ["_law_state", "_law_pot_here", "_law_kind"] [] := F__law_name.bindsN fun _ _ _ _ _ _ us hl => match us, hl with | [_, _, _], _ => rfl
  refine F__law_straight.ok sc__law_straight (fun vs H Q E h => spD_len h) (fun cdv A outer s H vs Q E hr h => ⟨tDS K (b__law_straight c), PSs.nox ?_, body_ok (by decide) h⟩)
  have nd := sc__law_straight.nd
  have hu1 := hu_of hr
  have hu64 := hu64_of hr
  have hu0 := hu0_of hr
  exact dss_cons (ds_set (i := 2) nd rfl (Or.inl rfl) (de_call O__law_ops hr rfl G__law_ops F__law_ops.kp B__law_ops (da_cons (de_var 0) da_nil)))
    (dss_one (ds_for PassesOwn.never rfl (di_rng1 rfl n_range (de_add (de_int) (de_call O__law_take hr rfl G__law_take F__law_take.kp B__law_take (da_cons (de_var 1) (da_cons (de_int) da_nil))))) (dg_name (i := 3) nd rfl (Or.inl rfl)) (dss_cons (ds_asg (de_ix hu1 (de_var 2) (de_call O__law_take hr rfl G__law_take F__law_take.kp B__law_take (da_cons (de_var 1) (da_cons (de_len rfl n_len (de_var 2)) da_nil)))) (dg_tup rfl (dgs_cons (dg_name (i := 4) nd rfl (Or.inl rfl)) (dgs_cons (dg_name (i := 5) nd rfl (Or.inl rfl)) (dgs_cons (dg_name (i := 6) nd rfl (Or.inl rfl)) (dgs_cons (dg_name (i := 7) nd rfl (Or.inl rfl)) (dgs_nil)))))))
    (dss_one (ds_if (dt_lt (de_ix hu1 (de_var 0) (de_str)) (de_ix hu1 (de_var 0) (de_str))) (dss_one (ds_expr (de_call O__law_put hr rfl G__law_put F__law_put.kp B__law_put (da_cons (de_var 0) (da_cons (de_var 6) (da_cons (de_var 4) (da_cons (de_lc (own := [("_law_one", 8)]) rfl nd (di_seq (de_var 5)) (blkOk_by (N := N__law_straight) (sc := defScope s__law_straight) (by decide +kernel)) (fun _ _ _ _ _ => dgw_name (i := 8) nd rfl (by first | exact Or.inl rfl | exact Or.inr rfl)) (fun _ _ _ _ _ => dts_nil) (fun _ _ _ _ _ => de_call O__law_name hr rfl G__law_name F__law_name.kp B__law_name (da_cons (de_var 0) (da_cons (de_var 1) (da_cons (de_var 8) da_nil))))) (da_cons (de_var 7) da_nil)))))))) (dss_nil))))))
abbrev N__law_open : List PySem.Str := (["_law_state"] : List PySem.Str)
def b__law_open (c : Nat → FnD) : SM := seqS (exprS (methF isL appendD (opF getD (varF 0) (cF (.str "blocks"))) (consF (cF .non) nilF)))
  (retS (opF subD (unF lenD (opF getD (varF 0) (cF (.str "blocks")))) (cF (.int 1))))
theorem sc__law_open : FnScope N__law_open ["_law_state"] (defScope s__law_open) := ⟨rfl, rfl, rfl, by decide +kernel, rfl, by decide +kernel, by decide +kernel⟩
theorem ok__law_open {P : Program} {w : World} {K : PySem.W.Frag} {mg : Str → Option Value} {base : Heap} {k : Nat} {c : Nat → FnD} {f__law_open : Addr} {fd__law_open : FuncData} (F__law_open : FnP K "_law_open" s__law_open f__law_open fd__law_open) (n_len : mg "len" = none) : FnOk P w K mg base CX0 (k + 1) f__law_open fd__law_open ["_law_state"] (spD K 1 (bodyD N__law_open.length (b__law_open c))) := by
  refine F__law_open.ok sc__law_open (fun vs H Q E h => spD_len h) (fun cdv A outer s H vs Q E hr h => ⟨tDS K (b__law_open c), PSs.nox ?_, body_ok (by decide) h⟩)
  have nd := sc__law_open.nd
  have hu1 := hu_of hr
  have hu64 := hu64_of hr
  have hu0 := hu0_of hr
  exact dss_cons (ds_expr (de_append (de_ix hu1 (de_var 0) (de_str)) (de_non)))
    (dss_one (ds_ret (de_sub (de_len rfl n_len (de_ix hu1 (de_var 0) (de_str))) (de_int))))
abbrev N__law_begin : List PySem.Str := (["_law_state", "_law_at", "_law_kinds", "_law_names"] : List PySem.Str)
def b__law_begin (c : Nat → FnD) : SM := seqS (setS 3 (lstRgF (rg2F (opF getD (varF 0) (cF (.str "next"))) (opF addD (opF getD (varF 0) (cF (.str "next"))) (unF lenD (varF 2))))))
  (seqS (asgS (tupF (consF (varF 1) (consF (lstF (nilF)) (consF (zipLF (consF (varF 3) (consF (varF 2) nilF))) nilF)))) (tupG 3 (consG (subG (varF 0) (cF (.str "now"))) (consG (subG (varF 0) (cF (.str "rows"))) (consG (subG (varF 0) (cF (.str "params"))) (nilG))))))
  (seqS (asgS (opF addD (opF getD (varF 0) (cF (.str "env"))) (opF getD (varF 0) (cF (.str "params")))) (subG (varF 0) (cF (.str "env"))))
  (seqS (daugS addI (varF 0) (cF (.str "next")) (unF lenD (varF 2)))
  (retS (varF 3)))))
theorem sc__law_begin : FnScope N__law_begin ["_law_state", "_law_at", "_law_kinds"] (defScope s__law_begin) := ⟨rfl, rfl, rfl, by decide +kernel, rfl, by decide +kernel, by decide +kernel⟩
theorem ok__law_begin {P : Program} {w : World} {K : PySem.W.Frag} {mg : Str → Option Value} {base : Heap} {k : Nat} {c : Nat → FnD} {f__law_begin : Addr} {fd__law_begin : FuncData} (F__law_begin : FnP K "_law_begin" s__law_begin f__law_begin fd__law_begin) (n_list : mg "list" = none) (n_range : mg "range" = none) (n_len : mg "len" = none) (n_zip : mg "zip" = none) : FnOk P w K mg base CX0 (k + 1) f__law_begin fd__law_begin ["_law_state", "_law_at", "_law_kinds"] (spD K 3 (bodyD N__law_begin.length (b__law_begin c))) := by
  refine F__law_begin.ok sc__law_begin (fun vs H Q E h => spD_len h) (fun cdv A outer s H vs Q E hr h => ⟨tDS K (b__law_begin c), PSs.nox ?_, body_ok (by decide) h⟩)
  have nd := sc__law_begin.nd
  have hu1 := hu_of hr
  have hu64 := hu64_of hr
  have hu0 := hu0_of hr
  exact dss_cons (ds_set (i := 3) nd rfl (Or.inl rfl) (de_listRg rfl rfl n_list (dr_2 rfl n_range (de_ix hu1 (de_var 0) (de_str)) (de_add (de_ix hu1 (de_var 0) (de_str)) (de_len rfl n_len (de_var 2))))))
    (dss_cons (ds_asg (de_tup (da_cons (de_var 1) (da_cons (de_lst (da_nil)) (da_cons (de_listzip rfl rfl n_list rfl n_zip (de_var 3) (de_var 2)) da_nil)))) (dg_tup rfl (dgs_cons (dg_sub hu1 (de_var 0) (de_str)) (dgs_cons (dg_sub hu1 (de_var 0) (de_str)) (dgs_cons (dg_sub hu1 (de_var 0) (de_str)) (dgs_nil))))))
    (dss_cons (ds_asg (de_add (de_ix hu1 (de_var 0) (de_str)) (de_ix hu1 (de_var 0) (de_str))) (dg_sub hu1 (de_var 0) (de_str)))
    (dss_cons (ds_daug hu1 (de_var 0) (de_str) (de_len rfl n_len (de_var 2)) in_add in_addD)
    (dss_one (ds_ret (de_var 3))))))
abbrev N__law_end : List PySem.Str := (["_law_state", "_law_end_here"] : List PySem.Str)
def b__law_end (c : Nat → FnD) : SM := asgS (tupF (consF (unF tupleD (opF getD (varF 0) (cF (.str "params")))) (consF (unF tupleD (opF getD (varF 0) (cF (.str "rows")))) (consF (varF 1) nilF)))) (subG (opF getD (varF 0) (cF (.str "blocks"))) (opF getD (varF 0) (cF (.str "now"))))
theorem sc__law_end : FnScope N__law_end ["_law_state", "_law_end_here"] (defScope s__law_end) := ⟨rfl, rfl, rfl, by decide +kernel, rfl, by decide +kernel, by decide +kernel⟩
theorem ok__law_end {P : Program} {w : World} {K : PySem.W.Frag} {mg : Str → Option Value} {base : Heap} {k : Nat} {c : Nat → FnD} {f__law_end : Addr} {fd__law_end : FuncData} (F__law_end : FnP K "_law_end" s__law_end f__law_end fd__law_end) (n_tuple : mg "tuple" = none) : FnOk P w K mg base CX0 (k + 1) f__law_end fd__law_end ["_law_state", "_law_end_here"] (spD K 2 (bodyD N__law_end.length (b__law_end c))) := by
  refine F__law_end.ok sc__law_end (fun vs H Q E h => spD_len h) (fun cdv A outer s H vs Q E hr h => ⟨tDS K (b__law_end c), PSs.nox ?_, body_ok (by decide) h⟩)
  have nd := sc__law_end.nd
  have hu1 := hu_of hr
  have hu64 := hu64_of hr
  have hu0 := hu0_of hr
  exact dss_one (ds_asg (de_tup (da_cons (de_tuple rfl n_tuple (de_ix hu1 (de_var 0) (de_str))) (da_cons (de_tuple rfl n_tuple (de_ix hu1 (de_var 0) (de_str))) (da_cons (de_var 1) da_nil)))) (dg_sub hu1 (de_ix hu1 (de_var 0) (de_str)) (de_ix hu1 (de_var 0) (de_str))))
abbrev N__law_choice : List PySem.Str := (["_law_state", "_law_pot_here", "_law_deep", "_law_asked", "_law_yes", "_law_no", "_law_join", "_law_env", "_law_arm"] : List PySem.Str)
def b__law_choice (c : Nat → FnD) : SM := seqS (setS 3 (callF 3 (c 14) (consF (varF 0) (consF (varF 1) (consF (tupF (consF (cF (.str "truth")) nilF)) nilF)))))
  (seqS (parS [4, 5, 6] (consF (callF 1 (c 16) (consF (varF 0) nilF)) (consF (callF 1 (c 16) (consF (varF 0) nilF)) (consF (callF 1 (c 16) (consF (varF 0) nilF)) nilF))))
  (seqS (exprS (callF 2 (c 18) (consF (varF 0) (consF (tupF (consF (cF (.str "branch")) (consF (varF 3) (consF (varF 4) (consF (varF 5) nilF))))) nilF))))
  (seqS (setS 7 (unF listD (opF getD (varF 0) (cF (.str "env")))))
  (seqS (forS (seqI (tupF (consF (varF 4) (consF (varF 5) nilF)))) (nameG 8) (seqS (asgS (unF listD (varF 7)) (subG (varF 0) (cF (.str "env"))))
  (seqS (exprS (callF 3 (c 17) (consF (varF 0) (consF (varF 8) (consF (tupF (nilF)) nilF)))))
  (seqS (exprS (callF 3 (c 21) (consF (varF 0) (consF (varF 1) (consF (opF addD (varF 2) (cF (.int 1))) nilF)))))
  (ifS (andF (tstF (opF (eqD false) (varF 8) (varF 4))) (tstF (opF (eqD false) (callF 2 (c 11) (consF (varF 1) (consF (cF (.int 9)) nilF))) (cF (.int 8))))) (exprS (callF 2 (c 18) (consF (varF 0) (consF (tupF (consF (cF (.str "fail")) (consF (cF (.str "fail")) (consF (opF getD (varF 0) (cF (.str "line"))) nilF)))) nilF)))) (exprS (callF 2 (c 18) (consF (varF 0) (consF (tupF (consF (cF (.str "jump")) (consF (varF 6) (consF (tupF (consF (callF 3 (c 14) (consF (varF 0) (consF (varF 1) (consF (tupF (consF (cF (.str "number")) nilF)) nilF)))) nilF)) nilF)))) nilF)))))))))
  (seqS (asgS (unF listD (varF 7)) (subG (varF 0) (cF (.str "env"))))
  (exprS (callF 3 (c 17) (consF (varF 0) (consF (varF 6) (consF (tupF (consF (tupF (consF (cF (.str "number")) nilF)) nilF)) nilF))))))))))
theorem sc__law_choice : FnScope N__law_choice ["_law_state", "_law_pot_here", "_law_deep"] (defScope s__law_choice) := ⟨rfl, rfl, rfl, by decide +kernel, rfl, by decide +kernel, by decide +kernel⟩
theorem ok__law_choice {P : Program} {w : World} {K : PySem.W.Frag} {mg : Str → Option Value} {base : Heap} {k : Nat} {c : Nat → FnD} {f__law_choice : Addr} {fd__law_choice : FuncData} (F__law_choice : FnP K "_law_choice" s__law_choice f__law_choice fd__law_choice) {f__law_name : Addr} {fd__law_name : FuncData} (F__law_name : FnP K "_law_name" s__law_name f__law_name fd__law_name) (G__law_name : mg "_law_name" = some (.ref f__law_name)) (O__law_name : FnOk P w K mg base CX0 k f__law_name fd__law_name ["_law_state", "_law_pot_here", "_law_kind"] (spD K 3 (c 14))) {f__law_open : Addr} {fd__law_open : FuncData} (F__law_open : FnP K "_law_open" s__law_open f__law_open fd__law_open) (G__law_open : mg "_law_open" = some (.ref f__law_open)) (O__law_open : FnOk P w K mg base CX0 k f__law_open fd__law_open ["_law_state"] (spD K 1 (c 16))) {f__law_end : Addr} {fd__law_end : FuncData} (F__law_end : FnP K "_law_end" s__law_end f__law_end fd__law_end) (G__law_end : mg "_law_end" = some (.ref f__law_end)) (O__law_end : FnOk P w K mg base CX0 k f__law_end fd__law_end ["_law_state", "_law_end_here"] (spD K 2 (c 18))) {f__law_begin : Addr} {fd__law_begin : FuncData} (F__law_begin : FnP K "_law_begin" s__law_begin f__law_begin fd__law_begin) (G__law_begin : mg "_law_begin" = some (.ref f__law_begin)) (O__law_begin : FnOk P w K mg base CX0 k f__law_begin fd__law_begin ["_law_state", "_law_at", "_law_kinds"] (spD K 3 (c 17))) {f__law_body : Addr} {fd__law_body : FuncData} (F__law_body : FnP K "_law_body" s__law_body f__law_body fd__law_body) (G__law_body : mg "_law_body" = some (.ref f__law_body)) (O__law_body : FnOk P w K mg base CX0 k f__law_body fd__law_body ["_law_state", "_law_pot_here", "_law_deep"] (spD K 3 (c 21))) {f__law_take : Addr} {fd__law_take : FuncData} (F__law_take : FnP K "_law_take" s__law_take f__law_take fd__law_take) (G__law_take : mg "_law_take" = some (.ref f__law_take)) (O__law_take : FnOk P w K mg base CX0 k f__law_take fd__law_take ["_law_pot_here", "_law_many"] (spD K 2 (c 11))) (n_list : mg "list" = none) : FnOk P w K mg base CX0 (k + 1) f__law_choice fd__law_choice ["_law_state", "_law_pot_here", "_law_deep"] (spD K 3 (bodyD N__law_choice.length (b__law_choice c))) := by
  have B__law_name : Binds K fd__law_name ["_law_state", "_law_pot_here", "_law_kind"] [] := F__law_name.bindsN fun _ _ _ _ _ _ us hl => match us, hl with | [_, _, _], _ => rfl
  have B__law_open : Binds K fd__law_open ["_law_state"] [] := F__law_open.bindsN fun _ _ _ _ _ _ us hl => match us, hl with | [_], _ => rfl
  have B__law_end : Binds K fd__law_end ["_law_state", "_law_end_here"] [] := F__law_end.bindsN fun _ _ _ _ _ _ us hl => match us, hl with | [_, _], _ => rfl
  have B__law_begin : Binds K fd__law_begin ["_law_state", "_law_at", "_law_kinds"] [] := F__law_begin.bindsN fun _ _ _ _ _ _ us hl => match us, hl with | [_, _, _], _ => rfl
  have B__law_body : Binds K fd__law_body ["_law_state", "_law_pot_here", "_law_deep"] [] := F__law_body.bindsN fun _ _ _ _ _ _ us hl => match us, hl with | [_, _, _], _ => rfl
  have B__law_take : Binds K fd__law_take ["_law_pot_here", "_law_many"] [] := F__law_take.bindsN fun _ _ _ _ _ _ us hl => match us, hl with | [_, _], _ => rfl
  refine F__law_choice.ok sc__law_choice (fun vs H Q E h => spD_len h) (fun cdv A outer s H vs Q E hr h => ⟨tDS K (b__law_choice c), PSs.nox ?_, body_ok (by decide) h⟩)
  have nd := sc__law_choice.nd
  have hu1 := hu_of hr
  have hu64 := hu64_of hr
  have hu0 := hu0_of hr
  exact dss_cons (ds_set (i := 3) nd rfl (Or.inl rfl) (de_call O__law_name hr rfl G__law_name F__law_name.kp B__law_name (da_cons (de_var 0) (da_cons (de_var 1) (da_cons (de_tup (da_cons (de_str) da_nil)) da_nil)))))
    (dss_cons (ds_par3 (i := 4) (j := 5) (l := 6) rfl nd rfl rfl rfl (by decide) (by decide) (by decide) rfl rfl rfl (da_cons (de_call O__law_open hr rfl G__law_open F__law_open.kp B__law_open (da_cons (de_var 0) da_nil)) (da_cons (de_call O__law_open hr rfl G__law_open F__law_open.kp B__law_open (da_cons (de_var 0) da_nil)) (da_cons (de_call O__law_open hr rfl G__law_open F__law_open.kp B__law_open (da_cons (de_var 0) da_nil)) da_nil))) rfl)
    (dss_cons (ds_expr (de_call O__law_end hr rfl G__law_end F__law_end.kp B__law_end (da_cons (de_var 0) (da_cons (de_tup (da_cons (de_str) (da_cons (de_var 3) (da_cons (de_var 4) (da_cons (de_var 5) da_nil))))) da_nil))))
    (dss_cons (ds_set (i := 7) nd rfl (Or.inl rfl) (de_list rfl rfl n_list (de_ix hu1 (de_var 0) (de_str))))
    (dss_cons (ds_for PassesOwn.never rfl (di_seq (de_tup (da_cons (de_var 4) (da_cons (de_var 5) da_nil)))) (dg_name (i := 8) nd rfl (Or.inl rfl)) (dss_cons (ds_asg (de_list rfl rfl n_list (de_var 7)) (dg_sub hu1 (de_var 0) (de_str)))
    (dss_cons (ds_expr (de_call O__law_begin hr rfl G__law_begin F__law_begin.kp B__law_begin (da_cons (de_var 0) (da_cons (de_var 8) (da_cons (de_tup (da_nil)) da_nil)))))
    (dss_cons (ds_expr (de_call O__law_body hr rfl G__law_body F__law_body.kp B__law_body (da_cons (de_var 0) (da_cons (de_var 1) (da_cons (de_add (de_var 2) (de_int)) da_nil)))))
    (dss_one (ds_if (PW.pt (dw_and (dt_eq hu64 (de_var 8) (de_var 4)) (dw_and1 (dt_eq hu64 (de_call O__law_take hr rfl G__law_take F__law_take.kp B__law_take (da_cons (de_var 1) (da_cons (de_int) da_nil))) (de_int))))) (dss_one (ds_expr (de_call O__law_end hr rfl G__law_end F__law_end.kp B__law_end (da_cons (de_var 0) (da_cons (de_tup (da_cons (de_str) (da_cons (de_str) (da_cons (de_ix hu1 (de_var 0) (de_str)) da_nil)))) da_nil))))) (dss_one (ds_expr (de_call O__law_end hr rfl G__law_end F__law_end.kp B__law_end (da_cons (de_var 0) (da_cons (de_tup (da_cons (de_str) (da_cons (de_var 6) (da_cons (de_tup (da_cons (de_call O__law_name hr rfl G__law_name F__law_name.kp B__law_name (da_cons (de_var 0) (da_cons (de_var 1) (da_cons (de_tup (da_cons (de_str) da_nil)) da_nil)))) da_nil)) da_nil)))) da_nil)))))))))))
    (dss_cons (ds_asg (de_list rfl rfl n_list (de_var 7)) (dg_sub hu1 (de_var 0) (de_str)))
    (dss_one (ds_expr (de_call O__law_begin hr rfl G__law_begin F__law_begin.kp B__law_begin (da_cons (de_var 0) (da_cons (de_var 6) (da_cons (de_tup (da_cons (de_tup (da_cons (de_str) da_nil)) da_nil)) da_nil)))))))))))
abbrev N__law_loop : List PySem.Str := ((["_law_state", "_law_pot_here", "_law_deep", "_law_number", "_law_more", "_law_first", "_law_head", "_law_body_here", "_law_out", "_law_names", "_law_left", "_law_asked", "_law_env", "_law_less", "_law_turned"] : List PySem.Str) ++ (["_law_k"] : List PySem.Str))
def b__law_loop (c : Nat → FnD) : SM := seqS (setS 3 (tupF (consF (cF (.str "number")) nilF)))
  (seqS (setS 4 (opF addD (cF (.int 1)) (opF getD (lstF (consF (cF (.int 0)) (consF (cF (.int 1)) (consF (cF (.int 2)) (consF (cF (.int 3)) (consF (cF (.int 5)) (consF (cF (.int 8)) nilF))))))) (callF 2 (c 11) (consF (varF 1) (consF (cF (.int 6)) nilF))))))
  (seqS (setS 5 (opF addD (lcF (rng1I (varF 4)) (nameG 15) (yesF) (callF 3 (c 14) (consF (varF 0) (consF (varF 1) (consF (varF 3) nilF)))) [15]) (lstF (consF (callF 3 (c 14) (consF (varF 0) (consF (varF 1) (consF (cF (.str "few")) nilF)))) nilF))))
  (seqS (parS [6, 7, 8] (consF (callF 1 (c 16) (consF (varF 0) nilF)) (consF (callF 1 (c 16) (consF (varF 0) nilF)) (consF (callF 1 (c 16) (consF (varF 0) nilF)) nilF))))
  (seqS (exprS (callF 2 (c 18) (consF (varF 0) (consF (tupF (consF (cF (.str "jump")) (consF (varF 6) (consF (unF tupleD (varF 5)) nilF)))) nilF))))
  (seqS (setS 9 (callF 3 (c 17) (consF (varF 0) (consF (varF 6) (consF (opF mulD (lstF (consF (varF 3) nilF)) (opF addD (varF 4) (cF (.int 1)))) nilF)))))
  (seqS (setS 10 (opF getD (varF 9) (varF 4)))
  (seqS (exprS (callF 5 (c 13) (consF (varF 0) (consF (cF .non) (consF (cF (.str "tick")) (consF (tupF (nilF)) (consF (tupF (nilF)) nilF)))))))
  (seqS (setS 11 (callF 5 (c 13) (consF (varF 0) (consF (tupF (consF (cF (.str "truth")) nilF)) (consF (cF (.str "<")) (consF (tupF (consF (callF 5 (c 13) (consF (varF 0) (consF (varF 3) (consF (cF (.str "number")) (consF (tupF (nilF)) (consF (tupF (consF (cF (.int 0)) nilF)) nilF)))))) (consF (varF 10) nilF))) (consF (tupF (nilF)) nilF)))))))
  (seqS (ifS (tstF (opF (eqD false) (callF 2 (c 11) (consF (varF 1) (consF (cF (.int 8)) nilF))) (cF (.int 7)))) (setS 11 (callF 3 (c 14) (consF (varF 0) (consF (varF 1) (consF (tupF (consF (cF (.str "truth")) nilF)) nilF))))) (nextS))
  (seqS (exprS (callF 2 (c 18) (consF (varF 0) (consF (tupF (consF (cF (.str "branch")) (consF (varF 11) (consF (varF 7) (consF (varF 8) nilF))))) nilF))))
  (seqS (setS 12 (unF listD (opF getD (varF 0) (cF (.str "env")))))
  (seqS (exprS (callF 3 (c 17) (consF (varF 0) (consF (varF 7) (consF (tupF (nilF)) nilF)))))
  (seqS (exprS (callF 3 (c 21) (consF (varF 0) (consF (varF 1) (consF (opF addD (varF 2) (cF (.int 1))) nilF)))))
  (seqS (setS 13 (callF 5 (c 13) (consF (varF 0) (consF (varF 3) (consF (cF (.str "-")) (consF (tupF (consF (varF 10) (consF (callF 5 (c 13) (consF (varF 0) (consF (varF 3) (consF (cF (.str "number")) (consF (tupF (nilF)) (consF (tupF (consF (cF (.int 1)) nilF)) nilF)))))) nilF))) (consF (tupF (nilF)) nilF)))))))
  (seqS (setS 14 (opF addD (slF (varF 9) (soF (cF (.int 1))) (soF (varF 4))) (slF (varF 9) (noF) (soF (cF (.int 1))))))
  (seqS (ifS (tstF (opF (eqD false) (callF 2 (c 11) (consF (varF 1) (consF (cF (.int 2)) nilF))) (cF (.int 1)))) (setS 14 (lcF (rng1I (varF 4)) (nameG 15) (yesF) (callF 3 (c 14) (consF (varF 0) (consF (varF 1) (consF (varF 3) nilF)))) [15])) (nextS))
  (seqS (exprS (callF 2 (c 18) (consF (varF 0) (consF (tupF (consF (cF (.str "jump")) (consF (varF 6) (consF (unF tupleD (opF addD (varF 14) (lstF (consF (varF 13) nilF)))) nilF)))) nilF))))
  (seqS (asgS (unF listD (varF 12)) (subG (varF 0) (cF (.str "env"))))
  (exprS (callF 3 (c 17) (consF (varF 0) (consF (varF 8) (consF (tupF (nilF)) nilF)))))))))))))))))))))))
theorem sc__law_loop : FnScope N__law_loop ["_law_state", "_law_pot_here", "_law_deep"] (defScope s__law_loop) := ⟨rfl, rfl, rfl, by decide +kernel, rfl, by decide +kernel, by decide +kernel⟩
theorem ok__law_loop {P : Program} {w : World} {K : PySem.W.Frag} {mg : Str → Option Value} {base : Heap} {k : Nat} {c : Nat → FnD} {f__law_loop : Addr} {fd__law_loop : FuncData} (F__law_loop : FnP K "_law_loop" s__law_loop f__law_loop fd__law_loop) {f__law_take : Addr} {fd__law_take : FuncData} (F__law_take : FnP K "_law_take" s__law_take f__law_take fd__law_take) (G__law_take : mg "_law_take" = some (.ref f__law_take)) (O__law_take : FnOk P w K mg base CX0 k f__law_take fd__law_take ["_law_pot_here", "_law_many"] (spD K 2 (c 11))) {f__law_name : Addr} {fd__law_name : FuncData} (F__law_name : FnP K "_law_name" s__law_name f__law_name fd__law_name) (G__law_name : mg "_law_name" = some (.ref f__law_name)) (O__law_name : FnOk P w K mg base CX0 k f__law_name fd__law_name ["_law_state", "_law_pot_here", "_law_kind"] (spD K 3 (c 14))) {f__law_open : Addr} {fd__law_open : FuncData} (F__law_open : FnP K "_law_open" s__law_open f__law_open fd__law_open) (G__law_open : mg "_law_open" = some (.ref f__law_open)) (O__law_open : FnOk P w K mg base CX0 k f__law_open fd__law_open ["_law_state"] (spD K 1 (c 16))) {f__law_end : Addr} {fd__law_end : FuncData} (F__law_end : FnP K "_law_end" s__law_end f__law_end fd__law_end) (G__law_end : mg "_law_end" = some (.ref f__law_end)) (O__law_end : FnOk P w K mg base CX0 k f__law_end fd__law_end ["_law_state", "_law_end_here"] (spD K 2 (c 18))) {f__law_begin : Addr} {fd__law_begin : FuncData} (F__law_begin : FnP K "_law_begin" s__law_begin f__law_begin fd__law_begin) (G__law_begin : mg "_law_begin" = some (.ref f__law_begin)) (O__law_begin : FnOk P w K mg base CX0 k f__law_begin fd__law_begin ["_law_state", "_law_at", "_law_kinds"] (spD K 3 (c 17))) {f__law_put : Addr} {fd__law_put : FuncData} (F__law_put : FnP K "_law_put" s__law_put f__law_put fd__law_put) (G__law_put : mg "_law_put" = some (.ref f__law_put)) (O__law_put : FnOk P w K mg base CX0 k f__law_put fd__law_put ["_law_state", "_law_kind", "_law_op", "_law_args", "_law_more"] (spD K 5 (c 13))) {f__law_body : Addr} {fd__law_body : FuncData} (F__law_body : FnP K "_law_body" s__law_body f__law_body fd__law_body) (G__law_body : mg "_law_body" = some (.ref f__law_body)) (O__law_body : FnOk P w K mg base CX0 k f__law_body fd__law_body ["_law_state", "_law_pot_here", "_law_deep"] (spD K 3 (c 21))) (n_range : mg "range" = none) (n_tuple : mg "tuple" = none) (n_list : mg "list" = none) : FnOk P w K mg base CX0 (k + 1) f__law_loop fd__law_loop ["_law_state", "_law_pot_here", "_law_deep"] (spD K 3 (bodyD N__law_loop.length (b__law_loop c))) := by
  have B__law_take : Binds K fd__law_take ["_law_pot_here", "_law_many"] [] := F__law_take.bindsN fun _ _ _ _ _ _ us hl => match us, hl with | [_, _], _ => rfl
  have B__law_name : Binds K fd__law_name ["_law_state", "_law_pot_here", "_law_kind"] [] := F__law_name.bindsN fun _ _ _ _ _ _ us hl => match us, hl with | [_, _, _], _ => rfl
  have B__law_open : Binds K fd__law_open ["_law_state"] [] := F__law_open.bindsN fun _ _ _ _ _ _ us hl => match us, hl with | [_], _ => rfl
  have B__law_end : Binds K fd__law_end ["_law_state", "_law_end_here"] [] := F__law_end.bindsN fun _ _ _ _ _ _ us hl => match us, hl with | [_, _], _ => rfl
  have B__law_begin : Binds K fd__law_begin ["_law_state", "_law_at", "_law_kinds"] [] := F__law_begin.bindsN fun _ _ _ _ _ _ us hl => match us, hl with | [_, _, _], _ => rfl
  have B__law_put : Binds K fd__law_put ["_law_state", "_law_kind", "_law_op", "_law_args", "_law_more"] [] := F__law_put.bindsN fun _ _ _ _ _ _ us hl => match us, hl with | [_, _, _, _, _], _ => rfl
  have B__law_body : Binds K fd__law_body ["_law_state", "_law_pot_here", "_law_deep"] [] := F__law_body.bindsN fun _ _ _ _ _ _ us hl => match us, hl with | [_, _, _], _ => rfl
  refine F__law_loop.ok sc__law_loop (fun vs H Q E h => spD_len h) (fun cdv A outer s H vs Q E hr h => ⟨tDS K (b__law_loop c), PSs.nox ?_, body_ok (by decide) h⟩)
  have nd := sc__law_loop.nd
  have hu1 := hu_of hr
  have hu64 := hu64_of hr
  have hu0 := hu0_of hr
  exact dss_cons (ds_set (i := 3) nd rfl (Or.inr rfl) (de_tup (da_cons (de_str) da_nil)))
    (dss_cons (ds_set (i := 4) nd rfl (Or.inl rfl) (de_add (de_int) (de_ix hu1 (de_lst (da_cons (de_int) (da_cons (de_int) (da_cons (de_int) (da_cons (de_int) (da_cons (de_int) (da_cons (de_int) da_nil))))))) (de_call O__law_take hr rfl G__law_take F__law_take.kp B__law_take (da_cons (de_var 1) (da_cons (de_int) da_nil))))))
    (dss_cons (ds_set (i := 5) nd rfl (Or.inl rfl) (de_add (de_lc (own := [("_law_k", 15)]) rfl nd (di_rng1 rfl n_range (de_var 4)) (blkOk_by (N := N__law_loop) (sc := defScope s__law_loop) (by decide +kernel)) (fun _ _ _ _ _ => dgw_name (i := 15) nd rfl (by first | exact Or.inl rfl | exact Or.inr rfl)) (fun _ _ _ _ _ => dts_nil) (fun _ _ _ _ _ => de_call O__law_name hr rfl G__law_name F__law_name.kp B__law_name (da_cons (de_var 0) (da_cons (de_var 1) (da_cons (de_var 3) da_nil))))) (de_lst (da_cons (de_call O__law_name hr rfl G__law_name F__law_name.kp B__law_name (da_cons (de_var 0) (da_cons (de_var 1) (da_cons (de_str) da_nil)))) da_nil))))
    (dss_cons (ds_par3 (i := 6) (j := 7) (l := 8) rfl nd rfl rfl rfl (by decide) (by decide) (by decide) rfl rfl rfl (da_cons (de_call O__law_open hr rfl G__law_open F__law_open.kp B__law_open (da_cons (de_var 0) da_nil)) (da_cons (de_call O__law_open hr rfl G__law_open F__law_open.kp B__law_open (da_cons (de_var 0) da_nil)) (da_cons (de_call O__law_open hr rfl G__law_open F__law_open.kp B__law_open (da_cons (de_var 0) da_nil)) da_nil))) rfl)
    (dss_cons (ds_expr (de_call O__law_end hr rfl G__law_end F__law_end.kp B__law_end (da_cons (de_var 0) (da_cons (de_tup (da_cons (de_str) (da_cons (de_var 6) (da_cons (de_tuple rfl n_tuple (de_var 5)) da_nil)))) da_nil))))
    (dss_cons (ds_set (i := 9) nd rfl (Or.inl rfl) (de_call O__law_begin hr rfl G__law_begin F__law_begin.kp B__law_begin (da_cons (de_var 0) (da_cons (de_var 6) (da_cons (de_mul (de_lst (da_cons (de_var 3) da_nil)) (de_add (de_var 4) (de_int))) da_nil)))))
    (dss_cons (ds_set (i := 10) nd rfl (Or.inl rfl) (de_ix hu1 (de_var 9) (de_var 4)))
    (dss_cons (ds_expr (de_call O__law_put hr rfl G__law_put F__law_put.kp B__law_put (da_cons (de_var 0) (da_cons (de_non) (da_cons (de_str) (da_cons (de_tup (da_nil)) (da_cons (de_tup (da_nil)) da_nil)))))))
    (dss_cons (ds_set (i := 11) nd rfl (Or.inl rfl) (de_call O__law_put hr rfl G__law_put F__law_put.kp B__law_put (da_cons (de_var 0) (da_cons (de_tup (da_cons (de_str) da_nil)) (da_cons (de_str) (da_cons (de_tup (da_cons (de_call O__law_put hr rfl G__law_put F__law_put.kp B__law_put (da_cons (de_var 0) (da_cons (de_var 3) (da_cons (de_str) (da_cons (de_tup (da_nil)) (da_cons (de_tup (da_cons (de_int) da_nil)) da_nil)))))) (da_cons (de_var 10) da_nil))) (da_cons (de_tup (da_nil)) da_nil)))))))
    (dss_cons (ds_if (dt_eq hu64 (de_call O__law_take hr rfl G__law_take F__law_take.kp B__law_take (da_cons (de_var 1) (da_cons (de_int) da_nil))) (de_int)) (dss_one (ds_set (i := 11) nd rfl (Or.inl rfl) (de_call O__law_name hr rfl G__law_name F__law_name.kp B__law_name (da_cons (de_var 0) (da_cons (de_var 1) (da_cons (de_tup (da_cons (de_str) da_nil)) da_nil)))))) (dss_nil))
    (dss_cons (ds_expr (de_call O__law_end hr rfl G__law_end F__law_end.kp B__law_end (da_cons (de_var 0) (da_cons (de_tup (da_cons (de_str) (da_cons (de_var 11) (da_cons (de_var 7) (da_cons (de_var 8) da_nil))))) da_nil))))
    (dss_cons (ds_set (i := 12) nd rfl (Or.inl rfl) (de_list rfl rfl n_list (de_ix hu1 (de_var 0) (de_str))))
    (dss_cons (ds_expr (de_call O__law_begin hr rfl G__law_begin F__law_begin.kp B__law_begin (da_cons (de_var 0) (da_cons (de_var 7) (da_cons (de_tup (da_nil)) da_nil)))))
    (dss_cons (ds_expr (de_call O__law_body hr rfl G__law_body F__law_body.kp B__law_body (da_cons (de_var 0) (da_cons (de_var 1) (da_cons (de_add (de_var 2) (de_int)) da_nil)))))
    (dss_cons (ds_set (i := 13) nd rfl (Or.inl rfl) (de_call O__law_put hr rfl G__law_put F__law_put.kp B__law_put (da_cons (de_var 0) (da_cons (de_var 3) (da_cons (de_str) (da_cons (de_tup (da_cons (de_var 10) (da_cons (de_call O__law_put hr rfl G__law_put F__law_put.kp B__law_put (da_cons (de_var 0) (da_cons (de_var 3) (da_cons (de_str) (da_cons (de_tup (da_nil)) (da_cons (de_tup (da_cons (de_int) da_nil)) da_nil)))))) da_nil))) (da_cons (de_tup (da_nil)) da_nil)))))))
    (dss_cons (ds_set (i := 14) nd rfl (Or.inl rfl) (de_add (de_slice (de_var 9) (do_some (de_int)) (do_some (de_var 4))) (de_slice (de_var 9) (do_none) (do_some (de_int)))))
    (dss_cons (ds_if (dt_eq hu64 (de_call O__law_take hr rfl G__law_take F__law_take.kp B__law_take (da_cons (de_var 1) (da_cons (de_int) da_nil))) (de_int)) (dss_one (ds_setLc (own := [("_law_k", 15)]) rfl nd rfl rfl (sw_true rfl rfl rfl (by decide +kernel)) (di_rng1 rfl n_range (de_var 4)) (blkOk_by (N := N__law_loop) (sc := defScope s__law_loop) (by decide +kernel)) (fun _ _ _ _ _ => dgw_name (i := 15) nd rfl (by first | exact Or.inl rfl | exact Or.inr rfl)) (fun _ _ _ _ _ => dts_nil) (fun _ _ _ _ _ => de_call O__law_name hr rfl G__law_name F__law_name.kp B__law_name (da_cons (de_var 0) (da_cons (de_var 1) (da_cons (de_var 3) da_nil)))))) (dss_nil))
    (dss_cons (ds_expr (de_call O__law_end hr rfl G__law_end F__law_end.kp B__law_end (da_cons (de_var 0) (da_cons (de_tup (da_cons (de_str) (da_cons (de_var 6) (da_cons (de_tuple rfl n_tuple (de_add (de_var 14) (de_lst (da_cons (de_var 13) da_nil)))) da_nil)))) da_nil))))
    (dss_cons (ds_asg (de_list rfl rfl n_list (de_var 12)) (dg_sub hu1 (de_var 0) (de_str)))
    (dss_one (ds_expr (de_call O__law_begin hr rfl G__law_begin F__law_begin.kp B__law_begin (da_cons (de_var 0) (da_cons (de_var 8) (da_cons (de_tup (da_nil)) da_nil))))))))))))))))))))))))
abbrev N__law_body : List PySem.Str := (["_law_state", "_law_pot_here", "_law_deep", "_law_k", "_law_way"] : List PySem.Str)
def b__law_body (c : Nat → FnD) : SM := forS (rng1I (opF addD (cF (.int 1)) (callF 2 (c 11) (consF (varF 1) (consF (cF (.int 3)) nilF))))) (nameG 3) (seqS (setS 4 (callF 2 (c 11) (consF (varF 1) (consF (cF (.int 5)) nilF))))
  (seqS (daugS subI (varF 0) (cF (.str "budget")) (cF (.int 1)))
  (ifS (orF (tstF (opF (ltD fun i j => decide (i < j)) (varF 4) (cF (.int 3)))) (orF (tstF (opF (ltD fun i j => decide (j < i)) (varF 2) (cF (.int 2)))) (tstF (opF (ltD fun i j => decide (i < j)) (opF getD (varF 0) (cF (.str "budget"))) (cF (.int 0)))))) (exprS (callF 2 (c 15) (consF (varF 0) (consF (varF 1) nilF)))) (ifS (tstF (opF (eqD false) (varF 4) (cF (.int 3)))) (exprS (callF 3 (c 19) (consF (varF 0) (consF (varF 1) (consF (varF 2) nilF))))) (exprS (callF 3 (c 20) (consF (varF 0) (consF (varF 1) (consF (varF 2) nilF)))))))))
theorem sc__law_body : FnScope N__law_body ["_law_state", "_law_pot_here", "_law_deep"] (defScope s__law_body) := ⟨rfl, rfl, rfl, by decide +kernel, rfl, by decide +kernel, by decide +kernel⟩
theorem ok__law_body {P : Program} {w : World} {K : PySem.W.Frag} {mg : Str → Option Value} {base : Heap} {k : Nat} {c : Nat → FnD} {f__law_body : Addr} {fd__law_body : FuncData} (F__law_body : FnP K "_law_body" s__law_body f__law_body fd__law_body) {f__law_take : Addr} {fd__law_take : FuncData} (F__law_take : FnP K "_law_take" s__law_take f__law_take fd__law_take) (G__law_take : mg "_law_take" = some (.ref f__law_take)) (O__law_take : FnOk P w K mg base CX0 k f__law_take fd__law_take ["_law_pot_here", "_law_many"] (spD K 2 (c 11))) {f__law_straight : Addr} {fd__law_straight : FuncData} (F__law_straight : FnP K "_law_straight" s__law_straight f__law_straight fd__law_straight) (G__law_straight : mg "_law_straight" = some (.ref f__law_straight)) (O__law_straight : FnOk P w K mg base CX0 k f__law_straight fd__law_straight ["_law_state", "_law_pot_here"] (spD K 2 (c 15))) {f__law_choice : Addr} {fd__law_choice : FuncData} (F__law_choice : FnP K "_law_choice" s__law_choice f__law_choice fd__law_choice) (G__law_choice : mg "_law_choice" = some (.ref f__law_choice)) (O__law_choice : FnOk P w K mg base CX0 k f__law_choice fd__law_choice ["_law_state", "_law_pot_here", "_law_deep"] (spD K 3 (c 19))) {f__law_loop : Addr} {fd__law_loop : FuncData} (F__law_loop : FnP K "_law_loop" s__law_loop f__law_loop fd__law_loop) (G__law_loop : mg "_law_loop" = some (.ref f__law_loop)) (O__law_loop : FnOk P w K mg base CX0 k f__law_loop fd__law_loop ["_law_state", "_law_pot_here", "_law_deep"] (spD K 3 (c 20))) (n_range : mg "range" = none) : FnOk P w K mg base CX0 (k + 1) f__law_body fd__law_body ["_law_state", "_law_pot_here", "_law_deep"] (spD K 3 (bodyD N__law_body.length (b__law_body c))) := by
  have B__law_take : Binds K fd__law_take ["_law_pot_here", "_law_many"] [] := F__law_take.bindsN fun _ _ _ _ _ _ us hl => match us, hl with | [_, _], _ => rfl
  have B__law_straight : Binds K fd__law_straight ["_law_state", "_law_pot_here"] [] := F__law_straight.bindsN fun _ _ _ _ _ _ us hl => match us, hl with | [_, _], _ => rfl
  have B__law_choice : Binds K fd__law_choice ["_law_state", "_law_pot_here", "_law_deep"] [] := F__law_choice.bindsN fun _ _ _ _ _ _ us hl => match us, hl with | [_, _, _], _ => rfl
  have B__law_loop : Binds K fd__law_loop ["_law_state", "_law_pot_here", "_law_deep"] [] := F__law_loop.bindsN fun _ _ _ _ _ _ us hl => match us, hl with | [_, _, _], _ => rfl
  refine F__law_body.ok sc__law_body (fun vs H Q E h => spD_len h) (fun cdv A outer s H vs Q E hr h => ⟨tDS K (b__law_body c), PSs.nox ?_, body_ok (by decide) h⟩)
  have nd := sc__law_body.nd
  have hu1 := hu_of hr
  have hu64 := hu64_of hr
  have hu0 := hu0_of hr
  exact dss_one (ds_for PassesOwn.never rfl (di_rng1 rfl n_range (de_add (de_int) (de_call O__law_take hr rfl G__law_take F__law_take.kp B__law_take (da_cons (de_var 1) (da_cons (de_int) da_nil))))) (dg_name (i := 3) nd rfl (Or.inl rfl)) (dss_cons (ds_set (i := 4) nd rfl (Or.inl rfl) (de_call O__law_take hr rfl G__law_take F__law_take.kp B__law_take (da_cons (de_var 1) (da_cons (de_int) da_nil))))
    (dss_cons (ds_daug hu1 (de_var 0) (de_str) (de_int) in_sub in_subD)
    (dss_one (ds_if (PW.pt (dw_or (dt_lt (de_var 4) (de_int)) (dw_or (dt_gt (de_var 2) (de_int)) (dw_or1 (dt_lt (de_ix hu1 (de_var 0) (de_str)) (de_int)))))) (dss_one (ds_expr (de_call O__law_straight hr rfl G__law_straight F__law_straight.kp B__law_straight (da_cons (de_var 0) (da_cons (de_var 1) da_nil))))) (dss_one (ds_if (dt_eq hu64 (de_var 4) (de_int)) (dss_one (ds_expr (de_call O__law_choice hr rfl G__law_choice F__law_choice.kp B__law_choice (da_cons (de_var 0) (da_cons (de_var 1) (da_cons (de_var 2) da_nil)))))) (dss_one (ds_expr (de_call O__law_loop hr rfl G__law_loop F__law_loop.kp B__law_loop (da_cons (de_var 0) (da_cons (de_var 1) (da_cons (de_var 2) da_nil)))))))))))))
abbrev N__law_function : List PySem.Str := (["_law_pot_here", "_law_head", "_law_calls", "_law_budget", "_law_fields", "_law_state"] : List PySem.Str)
def b__law_function (c : Nat → FnD) : SM := seqS (setS 5 (dispF [(cF (.str "blocks"), lstF (nilF)), (cF (.str "now"), cF (.int 0)), (cF (.str "rows"), lstF (nilF)), (cF (.str "params"), lstF (nilF)), (cF (.str "env"), lstF (nilF)), (cF (.str "next"), cF (.int 0)), (cF (.str "line"), cF (.int 0)), (cF (.str "calls"), varF 2)]))
  (seqS (exprS (methF isDk updateD (varF 5) (consF (dispF [(cF (.str "budget"), varF 3), (cF (.str "fields"), varF 4), (cF (.str "most"), opF getD (varF 1) (cF (.int 2)))]) nilF)))
  (seqS (exprS (callF 3 (c 17) (consF (varF 5) (consF (callF 1 (c 16) (consF (varF 5) nilF)) (consF (opF mulD (lstF (consF (tupF (consF (cF (.str "number")) nilF)) nilF)) (opF getD (varF 1) (cF (.int 1)))) nilF)))))
  (seqS (exprS (callF 5 (c 13) (consF (varF 5) (consF (cF .non) (consF (cF (.str "tick")) (consF (tupF (nilF)) (consF (tupF (nilF)) nilF)))))))
  (seqS (exprS (callF 3 (c 21) (consF (varF 5) (consF (varF 0) (consF (cF (.int 0)) nilF)))))
  (seqS (exprS (callF 2 (c 18) (consF (varF 5) (consF (tupF (consF (cF (.str "give")) (consF (callF 3 (c 14) (consF (varF 5) (consF (varF 0) (consF (tupF (consF (cF (.str "number")) nilF)) nilF)))) nilF))) nilF))))
  (retS (tupF (consF (opF getD (varF 1) (cF (.int 0))) (consF (tupF (consF (cF (.str "number")) nilF)) (consF (unF tupleD (opF getD (varF 5) (cF (.str "blocks")))) nilF))))))))))
theorem sc__law_function : FnScope N__law_function ["_law_pot_here", "_law_head", "_law_calls", "_law_budget", "_law_fields"] (defScope s__law_function) := ⟨rfl, rfl, rfl, by decide +kernel, rfl, by decide +kernel, by decide +kernel⟩
theorem ok__law_function {P : Program} {w : World} {K : PySem.W.Frag} {mg : Str → Option Value} {base : Heap} {k : Nat} {c : Nat → FnD} {f__law_function : Addr} {fd__law_function : FuncData} (F__law_function : FnP K "_law_function" s__law_function f__law_function fd__law_function) {f__law_begin : Addr} {fd__law_begin : FuncData} (F__law_begin : FnP K "_law_begin" s__law_begin f__law_begin fd__law_begin) (G__law_begin : mg "_law_begin" = some (.ref f__law_begin)) (O__law_begin : FnOk P w K mg base CX0 k f__law_begin fd__law_begin ["_law_state", "_law_at", "_law_kinds"] (spD K 3 (c 17))) {f__law_open : Addr} {fd__law_open : FuncData} (F__law_open : FnP K "_law_open" s__law_open f__law_open fd__law_open) (G__law_open : mg "_law_open" = some (.ref f__law_open)) (O__law_open : FnOk P w K mg base CX0 k f__law_open fd__law_open ["_law_state"] (spD K 1 (c 16))) {f__law_put : Addr} {fd__law_put : FuncData} (F__law_put : FnP K "_law_put" s__law_put f__law_put fd__law_put) (G__law_put : mg "_law_put" = some (.ref f__law_put)) (O__law_put : FnOk P w K mg base CX0 k f__law_put fd__law_put ["_law_state", "_law_kind", "_law_op", "_law_args", "_law_more"] (spD K 5 (c 13))) {f__law_body : Addr} {fd__law_body : FuncData} (F__law_body : FnP K "_law_body" s__law_body f__law_body fd__law_body) (G__law_body : mg "_law_body" = some (.ref f__law_body)) (O__law_body : FnOk P w K mg base CX0 k f__law_body fd__law_body ["_law_state", "_law_pot_here", "_law_deep"] (spD K 3 (c 21))) {f__law_end : Addr} {fd__law_end : FuncData} (F__law_end : FnP K "_law_end" s__law_end f__law_end fd__law_end) (G__law_end : mg "_law_end" = some (.ref f__law_end)) (O__law_end : FnOk P w K mg base CX0 k f__law_end fd__law_end ["_law_state", "_law_end_here"] (spD K 2 (c 18))) {f__law_name : Addr} {fd__law_name : FuncData} (F__law_name : FnP K "_law_name" s__law_name f__law_name fd__law_name) (G__law_name : mg "_law_name" = some (.ref f__law_name)) (O__law_name : FnOk P w K mg base CX0 k f__law_name fd__law_name ["_law_state", "_law_pot_here", "_law_kind"] (spD K 3 (c 14))) (n_tuple : mg "tuple" = none) : FnOk P w K mg base CX0 (k + 1) f__law_function fd__law_function ["_law_pot_here", "_law_head", "_law_calls", "_law_budget", "_law_fields"] (spD K 5 (bodyD N__law_function.length (b__law_function c))) := by
  have B__law_begin : Binds K fd__law_begin ["_law_state", "_law_at", "_law_kinds"] [] := F__law_begin.bindsN fun _ _ _ _ _ _ us hl => match us, hl with | [_, _, _], _ => rfl
  have B__law_open : Binds K fd__law_open ["_law_state"] [] := F__law_open.bindsN fun _ _ _ _ _ _ us hl => match us, hl with | [_], _ => rfl
  have B__law_put : Binds K fd__law_put ["_law_state", "_law_kind", "_law_op", "_law_args", "_law_more"] [] := F__law_put.bindsN fun _ _ _ _ _ _ us hl => match us, hl with | [_, _, _, _, _], _ => rfl
  have B__law_body : Binds K fd__law_body ["_law_state", "_law_pot_here", "_law_deep"] [] := F__law_body.bindsN fun _ _ _ _ _ _ us hl => match us, hl with | [_, _, _], _ => rfl
  have B__law_end : Binds K fd__law_end ["_law_state", "_law_end_here"] [] := F__law_end.bindsN fun _ _ _ _ _ _ us hl => match us, hl with | [_, _], _ => rfl
  have B__law_name : Binds K fd__law_name ["_law_state", "_law_pot_here", "_law_kind"] [] := F__law_name.bindsN fun _ _ _ _ _ _ us hl => match us, hl with | [_, _, _], _ => rfl
  refine F__law_function.ok sc__law_function (fun vs H Q E h => spD_len h) (fun cdv A outer s H vs Q E hr h => ⟨tDS K (b__law_function c), PSs.nox ?_, body_ok (by decide) h⟩)
  have nd := sc__law_function.nd
  have hu1 := hu_of hr
  have hu64 := hu64_of hr
  have hu0 := hu0_of hr
  exact dss_cons (ds_set (i := 5) nd rfl (Or.inl rfl) (de_disp [(cF (.str "blocks"), lstF (nilF)), (cF (.str "now"), cF (.int 0)), (cF (.str "rows"), lstF (nilF)), (cF (.str "params"), lstF (nilF)), (cF (.str "env"), lstF (nilF)), (cF (.str "next"), cF (.int 0)), (cF (.str "line"), cF (.int 0)), (cF (.str "calls"), varF 2)] (pps_cons (de_str) (de_lst (da_nil)) (pps_cons (de_str) (de_int) (pps_cons (de_str) (de_lst (da_nil)) (pps_cons (de_str) (de_lst (da_nil)) (pps_cons (de_str) (de_lst (da_nil)) (pps_cons (de_str) (de_int) (pps_cons (de_str) (de_int) (pps_cons (de_str) (de_var 2) (pps_nil)))))))))))
    (dss_cons (ds_expr (de_update (de_var 5) (de_disp [(cF (.str "budget"), varF 3), (cF (.str "fields"), varF 4), (cF (.str "most"), opF getD (varF 1) (cF (.int 2)))] (pps_cons (de_str) (de_var 3) (pps_cons (de_str) (de_var 4) (pps_cons (de_str) (de_ix hu1 (de_var 1) (de_int)) (pps_nil)))))))
    (dss_cons (ds_expr (de_call O__law_begin hr rfl G__law_begin F__law_begin.kp B__law_begin (da_cons (de_var 5) (da_cons (de_call O__law_open hr rfl G__law_open F__law_open.kp B__law_open (da_cons (de_var 5) da_nil)) (da_cons (de_mul (de_lst (da_cons (de_tup (da_cons (de_str) da_nil)) da_nil)) (de_ix hu1 (de_var 1) (de_int))) da_nil)))))
    (dss_cons (ds_expr (de_call O__law_put hr rfl G__law_put F__law_put.kp B__law_put (da_cons (de_var 5) (da_cons (de_non) (da_cons (de_str) (da_cons (de_tup (da_nil)) (da_cons (de_tup (da_nil)) da_nil)))))))
    (dss_cons (ds_expr (de_call O__law_body hr rfl G__law_body F__law_body.kp B__law_body (da_cons (de_var 5) (da_cons (de_var 0) (da_cons (de_int) da_nil)))))
    (dss_cons (ds_expr (de_call O__law_end hr rfl G__law_end F__law_end.kp B__law_end (da_cons (de_var 5) (da_cons (de_tup (da_cons (de_str) (da_cons (de_call O__law_name hr rfl G__law_name F__law_name.kp B__law_name (da_cons (de_var 5) (da_cons (de_var 0) (da_cons (de_tup (da_cons (de_str) da_nil)) da_nil)))) da_nil))) da_nil))))
    (dss_one (ds_ret (de_tup (da_cons (de_ix hu1 (de_var 1) (de_int)) (da_cons (de_tup (da_cons (de_str) da_nil)) (da_cons (de_tuple rfl n_tuple (de_ix hu1 (de_var 5) (de_str))) da_nil)))))))))))
abbrev N__law_middle : List PySem.Str := (["_law_pot_here", "_law_budget", "_law_names", "_law_fields", "_law_told", "_law_name_here", "_law_many", "_law_functions", "_law_k", "_law_one", "_law_head", "_law_turn"] : List PySem.Str)
def b__law_middle (c : Nat → FnD) : SM := seqS (setS 1 (opF addD (cF (.int 1)) (opF minD (cF (.int 5)) (opF fdivD (unF lenD (opF getD (varF 0) (cF (.str "cells")))) (cF (.int 5))))))
  (seqS (setS 2 (slF (lstF (consF (cF (.str "leaf")) (consF (cF (.str "stem")) (consF (cF (.str "bud")) (consF (cF (.str "twig")) (consF (cF (.str "root")) (consF (cF (.str "bark")) (consF (cF (.str "seed")) nilF)))))))) (noF) (soF (opF getD (lstF (consF (cF (.int 2)) (consF (cF (.int 2)) (consF (cF (.int 2)) (consF (cF (.int 7)) nilF))))) (callF 2 (c 11) (consF (varF 0) (consF (cF (.int 4)) nilF)))))))
  (seqS (setS 3 (unF tupleD (lcF (rng1I (opF getD (lstF (consF (cF (.int 2)) (consF (cF (.int 3)) (consF (cF (.int 8)) nilF)))) (callF 2 (c 11) (consF (varF 0) (consF (cF (.int 3)) nilF))))) (nameG 8) (yesF) (opF getD (lstF (consF (tupF (consF (cF (.str "number")) nilF)) (consF (tupF (consF (cF (.str "truth")) nilF)) nilF))) (opF modD (varF 8) (cF (.int 2)))) [8])))
  (seqS (setS 4 (lstF (nilF)))
  (seqS (forS (seqI (varF 2)) (nameG 5) (seqS (setS 6 (opF getD (lstF (consF (cF (.int 1)) (consF (cF (.int 2)) (consF (cF (.int 3)) (consF (cF (.int 4)) (consF (cF (.int 5)) (consF (cF (.int 8)) (consF (cF (.int 9)) nilF)))))))) (callF 2 (c 11) (consF (varF 0) (consF (cF (.int 7)) nilF)))))
  (exprS (methF isL appendD (varF 4) (consF (tupF (consF (varF 5) (consF (varF 6) (consF (callF 2 (c 11) (consF (varF 0) (consF (opF addD (varF 6) (cF (.int 1))) nilF))) nilF)))) nilF)))))
  (seqS (setS 7 (lstF (nilF)))
  (seqS (forS (enumI (varF 4)) (tupG 2 (consG (nameG 8) (consG (nameG 9) (nilG)))) (seqS (setS 10 (tupF (consF (opF getD (varF 9) (cF (.int 0))) (consF (opF getD (varF 9) (cF (.int 1))) (consF (opF getD (lstF (consF (cF (.int 85)) (consF (cF (.int 24)) nilF))) (opF fdivD (unF lenD (varF 4)) (cF (.int 7)))) nilF)))))
  (exprS (methF isL appendD (varF 7) (consF (callF 5 (c 22) (consF (varF 0) (consF (varF 10) (consF (slF (varF 4) (noF) (soF (opF addD (varF 8) (callF 2 (c 11) (consF (varF 0) (consF (cF (.int 2)) nilF)))))) (consF (opF fdivD (varF 1) (unF lenD (varF 4))) (consF (varF 3) nilF)))))) nilF)))))
  (seqS (setS 10 (tupF (consF (cF (.str "main")) (consF (callF 2 (c 11) (consF (varF 0) (consF (cF (.int 5)) nilF))) (consF (opF getD (lstF (consF (cF (.int 90)) (consF (cF (.int 50)) nilF))) (opF fdivD (unF lenD (varF 4)) (cF (.int 7)))) nilF)))))
  (seqS (exprS (methF isL appendD (varF 7) (consF (callF 5 (c 22) (consF (varF 0) (consF (varF 10) (consF (varF 4) (consF (varF 1) (consF (varF 3) nilF)))))) nilF)))
  (seqS (setS 11 (callF 2 (c 11) (consF (varF 0) (consF (unF lenD (varF 7)) nilF))))
  (retS (tupF (consF (tupF (consF (tupF (consF (cF (.str "pair")) (consF (varF 3) nilF))) nilF)) (consF (unF tupleD (opF addD (slF (varF 7) (soF (varF 11)) (noF)) (slF (varF 7) (noF) (soF (varF 11))))) nilF)))))))))))))
theorem sc__law_middle : FnScope N__law_middle ["_law_pot_here"] (defScope s__law_middle) := ⟨rfl, rfl, rfl, by decide +kernel, rfl, by decide +kernel, by decide +kernel⟩
theorem ok__law_middle {P : Program} {w : World} {K : PySem.W.Frag} {mg : Str → Option Value} {base : Heap} {k : Nat} {c : Nat → FnD} {f__law_middle : Addr} {fd__law_middle : FuncData} (F__law_middle : FnP K "_law_middle" s__law_middle f__law_middle fd__law_middle) {f__law_take : Addr} {fd__law_take : FuncData} (F__law_take : FnP K "_law_take" s__law_take f__law_take fd__law_take) (G__law_take : mg "_law_take" = some (.ref f__law_take)) (O__law_take : FnOk P w K mg base CX0 k f__law_take fd__law_take ["_law_pot_here", "_law_many"] (spD K 2 (c 11))) {f__law_function : Addr} {fd__law_function : FuncData} (F__law_function : FnP K "_law_function" s__law_function f__law_function fd__law_function) (G__law_function : mg "_law_function" = some (.ref f__law_function)) (O__law_function : FnOk P w K mg base CX0 k f__law_function fd__law_function ["_law_pot_here", "_law_head", "_law_calls", "_law_budget", "_law_fields"] (spD K 5 (c 22))) (n_min : mg "min" = none) (n_len : mg "len" = none) (n_tuple : mg "tuple" = none) (n_range : mg "range" = none) (n_enumerate : mg "enumerate" = none) : FnOk P w K mg base CX0 (k + 1) f__law_middle fd__law_middle ["_law_pot_here"] (spD K 1 (bodyD N__law_middle.length (b__law_middle c))) := by
  have B__law_take : Binds K fd__law_take ["_law_pot_here", "_law_many"] [] := F__law_take.bindsN fun _ _ _ _ _ _ us hl => match us, hl with | [_, _], _ => rfl
  have B__law_function : Binds K fd__law_function ["_law_pot_here", "_law_head", "_law_calls", "_law_budget", "_law_fields"] [] := F__law_function.bindsN fun _ _ _ _ _ _ us hl => match us, hl with | [_, _, _, _, _], _ => rfl
  refine F__law_middle.ok sc__law_middle (fun vs H Q E h => spD_len h) (fun cdv A outer s H vs Q E hr h => ⟨tDS K (b__law_middle c), PSs.nox ?_, body_ok (by decide) h⟩)
  have nd := sc__law_middle.nd
  have hu1 := hu_of hr
  have hu64 := hu64_of hr
  have hu0 := hu0_of hr
  exact dss_cons (ds_set (i := 1) nd rfl (Or.inl rfl) (de_add (de_int) (de_min rfl rfl n_min (de_int) (de_fdiv (de_len rfl n_len (de_ix hu1 (de_var 0) (de_str))) (de_int)))))
    (dss_cons (ds_set (i := 2) nd rfl (Or.inl rfl) (de_slice (de_lst (da_cons (de_str) (da_cons (de_str) (da_cons (de_str) (da_cons (de_str) (da_cons (de_str) (da_cons (de_str) (da_cons (de_str) da_nil)))))))) (do_none) (do_some (de_ix hu1 (de_lst (da_cons (de_int) (da_cons (de_int) (da_cons (de_int) (da_cons (de_int) da_nil))))) (de_call O__law_take hr rfl G__law_take F__law_take.kp B__law_take (da_cons (de_var 0) (da_cons (de_int) da_nil)))))))
    (dss_cons (ds_set (i := 3) nd rfl (Or.inl rfl) (de_tuple rfl n_tuple (de_lc (own := [("_law_k", 8)]) rfl nd (di_rng1 rfl n_range (de_ix hu1 (de_lst (da_cons (de_int) (da_cons (de_int) (da_cons (de_int) da_nil)))) (de_call O__law_take hr rfl G__law_take F__law_take.kp B__law_take (da_cons (de_var 0) (da_cons (de_int) da_nil))))) (blkOk_by (N := N__law_middle) (sc := defScope s__law_middle) (by decide +kernel)) (fun _ _ _ _ _ => dgw_name (i := 8) nd rfl (by first | exact Or.inl rfl | exact Or.inr rfl)) (fun _ _ _ _ _ => dts_nil) (fun _ _ _ _ _ => de_ix hu1 (de_lst (da_cons (de_tup (da_cons (de_str) da_nil)) (da_cons (de_tup (da_cons (de_str) da_nil)) da_nil))) (de_mod (de_var 8) (de_int))))))
    (dss_cons (ds_set (i := 4) nd rfl (Or.inl rfl) (de_lst (da_nil)))
    (dss_cons (ds_for PassesOwn.never rfl (di_seq (de_var 2)) (dg_name (i := 5) nd rfl (Or.inl rfl)) (dss_cons (ds_set (i := 6) nd rfl (Or.inl rfl) (de_ix hu1 (de_lst (da_cons (de_int) (da_cons (de_int) (da_cons (de_int) (da_cons (de_int) (da_cons (de_int) (da_cons (de_int) (da_cons (de_int) da_nil)))))))) (de_call O__law_take hr rfl G__law_take F__law_take.kp B__law_take (da_cons (de_var 0) (da_cons (de_int) da_nil)))))
    (dss_one (ds_expr (de_append (de_var 4) (de_tup (da_cons (de_var 5) (da_cons (de_var 6) (da_cons (de_call O__law_take hr rfl G__law_take F__law_take.kp B__law_take (da_cons (de_var 0) (da_cons (de_add (de_var 6) (de_int)) da_nil))) da_nil)))))))))
    (dss_cons (ds_set (i := 7) nd rfl (Or.inl rfl) (de_lst (da_nil)))
    (dss_cons (ds_for PassesOwn.never rfl (di_enum rfl n_enumerate (de_var 4)) (dg_tup rfl (dgs_cons (dg_name (i := 8) nd rfl (Or.inl rfl)) (dgs_cons (dg_name (i := 9) nd rfl (Or.inl rfl)) (dgs_nil)))) (dss_cons (ds_set (i := 10) nd rfl (Or.inl rfl) (de_tup (da_cons (de_ix hu1 (de_var 9) (de_int)) (da_cons (de_ix hu1 (de_var 9) (de_int)) (da_cons (de_ix hu1 (de_lst (da_cons (de_int) (da_cons (de_int) da_nil))) (de_fdiv (de_len rfl n_len (de_var 4)) (de_int))) da_nil)))))
    (dss_one (ds_expr (de_append (de_var 7) (de_call O__law_function hr rfl G__law_function F__law_function.kp B__law_function (da_cons (de_var 0) (da_cons (de_var 10) (da_cons (de_slice (de_var 4) (do_none) (do_some (de_add (de_var 8) (de_call O__law_take hr rfl G__law_take F__law_take.kp B__law_take (da_cons (de_var 0) (da_cons (de_int) da_nil)))))) (da_cons (de_fdiv (de_var 1) (de_len rfl n_len (de_var 4))) (da_cons (de_var 3) da_nil)))))))))))
    (dss_cons (ds_set (i := 10) nd rfl (Or.inl rfl) (de_tup (da_cons (de_str) (da_cons (de_call O__law_take hr rfl G__law_take F__law_take.kp B__law_take (da_cons (de_var 0) (da_cons (de_int) da_nil))) (da_cons (de_ix hu1 (de_lst (da_cons (de_int) (da_cons (de_int) da_nil))) (de_fdiv (de_len rfl n_len (de_var 4)) (de_int))) da_nil)))))
    (dss_cons (ds_expr (de_append (de_var 7) (de_call O__law_function hr rfl G__law_function F__law_function.kp B__law_function (da_cons (de_var 0) (da_cons (de_var 10) (da_cons (de_var 4) (da_cons (de_var 1) (da_cons (de_var 3) da_nil))))))))
    (dss_cons (ds_set (i := 11) nd rfl (Or.inl rfl) (de_call O__law_take hr rfl G__law_take F__law_take.kp B__law_take (da_cons (de_var 0) (da_cons (de_len rfl n_len (de_var 7)) da_nil))))
    (dss_one (ds_ret (de_tup (da_cons (de_tup (da_cons (de_tup (da_cons (de_str) (da_cons (de_var 3) da_nil))) da_nil)) (da_cons (de_tuple rfl n_tuple (de_add (de_slice (de_var 7) (do_some (de_var 11)) (do_none)) (de_slice (de_var 7) (do_none) (do_some (de_var 11))))) da_nil))))))))))))))
abbrev N__law_other : List PySem.Str := (["_law_x", "_law_way"] : List PySem.Str)
def b__law_other (c : Nat → FnD) : SM := seqS (ifS (tstF (opF (isND false) (varF 0) (cF .non))) (retS (cF .non)) (nextS))
  (retS (opF getD (lstF (consF (varF 0) (consF (opF addD (opF mulD (cF (.int 7)) (varF 0)) (cF (.int 3))) (consF (opF subD (opF powD (cF (.int 10)) (cF (.int 9))) (varF 0)) nilF)))) (varF 1)))
theorem sc__law_other : FnScope N__law_other ["_law_x", "_law_way"] (defScope s__law_other) := ⟨rfl, rfl, rfl, by decide +kernel, rfl, by decide +kernel, by decide +kernel⟩
theorem ok__law_other {P : Program} {w : World} {K : PySem.W.Frag} {mg : Str → Option Value} {base : Heap} {k : Nat} {c : Nat → FnD} {f__law_other : Addr} {fd__law_other : FuncData} (F__law_other : FnP K "_law_other" s__law_other f__law_other fd__law_other) : FnOk P w K mg base CX0 (k + 1) f__law_other fd__law_other ["_law_x", "_law_way"] (spD K 2 (bodyD N__law_other.length (b__law_other c))) := by
  refine F__law_other.ok sc__law_other (fun vs H Q E h => spD_len h) (fun cdv A outer s H vs Q E hr h => ⟨tDS K (b__law_other c), PSs.nox ?_, body_ok (by decide) h⟩)
  have nd := sc__law_other.nd
  have hu1 := hu_of hr
  have hu64 := hu64_of hr
  have hu0 := hu0_of hr
  exact dss_cons (ds_if (dt_is (de_var 0) (de_non)) (dss_one (ds_ret (de_non))) (dss_nil))
    (dss_one (ds_ret (de_ix hu1 (de_lst (da_cons (de_var 0) (da_cons (de_add (de_mul (de_int) (de_var 0)) (de_int)) (da_cons (de_sub (de_pow (de_int) (de_int)) (de_var 0)) da_nil)))) (de_var 1))))
abbrev N__law_other_end : List PySem.Str := (["_law_end_here", "_law_way", "_law_x"] : List PySem.Str)
def b__law_other_end (c : Nat → FnD) : SM := seqS (ifS (tstF (opF (eqD false) (opF getD (varF 0) (cF (.int 0))) (cF (.str "jump")))) (retS (tupF (consF (cF (.str "jump")) (consF (opF getD (varF 0) (cF (.int 1))) (consF (unF tupleD (lcF (seqI (opF getD (varF 0) (cF (.int 2)))) (nameG 2) (yesF) (callF 2 (c 24) (consF (varF 2) (consF (varF 1) nilF))) [2])) nilF))))) (nextS))
  (seqS (ifS (tstF (opF (eqD false) (opF getD (varF 0) (cF (.int 0))) (cF (.str "fail")))) (retS (varF 0)) (nextS))
  (retS (opF addD (tupF (consF (opF getD (varF 0) (cF (.int 0))) (consF (callF 2 (c 24) (consF (opF getD (varF 0) (cF (.int 1))) (consF (varF 1) nilF))) nilF))) (slF (varF 0) (soF (cF (.int 2))) (noF)))))
theorem sc__law_other_end : FnScope N__law_other_end ["_law_end_here", "_law_way"] (defScope s__law_other_end) := ⟨rfl, rfl, rfl, by decide +kernel, rfl, by decide +kernel, by decide +kernel⟩
theorem ok__law_other_end {P : Program} {w : World} {K : PySem.W.Frag} {mg : Str → Option Value} {base : Heap} {k : Nat} {c : Nat → FnD} {f__law_other_end : Addr} {fd__law_other_end : FuncData} (F__law_other_end : FnP K "_law_other_end" s__law_other_end f__law_other_end fd__law_other_end) {f__law_other : Addr} {fd__law_other : FuncData} (F__law_other : FnP K "_law_other" s__law_other f__law_other fd__law_other) (G__law_other : mg "_law_other" = some (.ref f__law_other)) (O__law_other : FnOk P w K mg base CX0 k f__law_other fd__law_other ["_law_x", "_law_way"] (spD K 2 (c 24))) (n_tuple : mg "tuple" = none) : FnOk P w K mg base CX0 (k + 1) f__law_other_end fd__law_other_end ["_law_end_here", "_law_way"] (spD K 2 (bodyD N__law_other_end.length (b__law_other_end c))) := by
  have B__law_other : Binds K fd__law_other ["_law_x", "_law_way"] [] := F__law_other.bindsN fun _ _ _ _ _ _ us hl => match us, hl with | [_, _], _ => rfl
  refine F__law_other_end.ok sc__law_other_end (fun vs H Q E h => spD_len h) (fun cdv A outer s H vs Q E hr h => ⟨tDS K (b__law_other_end c), PSs.nox ?_, body_ok (by decide) h⟩)
  have nd := sc__law_other_end.nd
  have hu1 := hu_of hr
  have hu64 := hu64_of hr
  have hu0 := hu0_of hr
  exact dss_cons (ds_if (dt_eq hu64 (de_ix hu1 (de_var 0) (de_int)) (de_str)) (dss_one (ds_ret (de_tup (da_cons (de_str) (da_cons (de_ix hu1 (de_var 0) (de_int)) (da_cons (de_tuple rfl n_tuple (de_lc (own := [("_law_x", 2)]) rfl nd (di_seq (de_ix hu1 (de_var 0) (de_int))) (blkOk_by (N := N__law_other_end) (sc := defScope s__law_other_end) (by decide +kernel)) (fun _ _ _ _ _ => dgw_name (i := 2) nd rfl (by first | exact Or.inl rfl | exact Or.inr rfl)) (fun _ _ _ _ _ => dts_nil) (fun _ _ _ _ _ => de_call O__law_other hr rfl G__law_other F__law_other.kp B__law_other (da_cons (de_var 2) (da_cons (de_var 1) da_nil))))) da_nil)))))) (dss_nil))
    (dss_cons (ds_if (dt_eq hu64 (de_ix hu1 (de_var 0) (de_int)) (de_str)) (dss_one (ds_ret (de_var 0))) (dss_nil))
    (dss_one (ds_ret (de_add (de_tup (da_cons (de_ix hu1 (de_var 0) (de_int)) (da_cons (de_call O__law_other hr rfl G__law_other F__law_other.kp B__law_other (da_cons (de_ix hu1 (de_var 0) (de_int)) (da_cons (de_var 1) da_nil))) da_nil))) (de_slice (de_var 0) (do_some (de_int)) (do_none))))))
abbrev N__law_other_row : List PySem.Str := (["_law_row", "_law_way", "_law_args", "_law_x"] : List PySem.Str)
def b__law_other_row (c : Nat → FnD) : SM := seqS (setS 2 (unF tupleD (lcF (seqI (opF getD (varF 0) (cF (.int 3)))) (nameG 3) (yesF) (callF 2 (c 24) (consF (varF 3) (consF (varF 1) nilF))) [3])))
  (retS (tupF (consF (callF 2 (c 24) (consF (opF getD (varF 0) (cF (.int 0))) (consF (varF 1) nilF))) (consF (opF getD (varF 0) (cF (.int 1))) (consF (opF getD (varF 0) (cF (.int 2))) (consF (varF 2) (consF (opF getD (varF 0) (cF (.int 4))) (consF (opF getD (varF 0) (cF (.int 5))) nilF))))))))
theorem sc__law_other_row : FnScope N__law_other_row ["_law_row", "_law_way"] (defScope s__law_other_row) := ⟨rfl, rfl, rfl, by decide +kernel, rfl, by decide +kernel, by decide +kernel⟩
theorem ok__law_other_row {P : Program} {w : World} {K : PySem.W.Frag} {mg : Str → Option Value} {base : Heap} {k : Nat} {c : Nat → FnD} {f__law_other_row : Addr} {fd__law_other_row : FuncData} (F__law_other_row : FnP K "_law_other_row" s__law_other_row f__law_other_row fd__law_other_row) {f__law_other : Addr} {fd__law_other : FuncData} (F__law_other : FnP K "_law_other" s__law_other f__law_other fd__law_other) (G__law_other : mg "_law_other" = some (.ref f__law_other)) (O__law_other : FnOk P w K mg base CX0 k f__law_other fd__law_other ["_law_x", "_law_way"] (spD K 2 (c 24))) (n_tuple : mg "tuple" = none) : FnOk P w K mg base CX0 (k + 1) f__law_other_row fd__law_other_row ["_law_row", "_law_way"] (spD K 2 (bodyD N__law_other_row.length (b__law_other_row c))) := by
  have B__law_other : Binds K fd__law_other ["_law_x", "_law_way"] [] := F__law_other.bindsN fun _ _ _ _ _ _ us hl => match us, hl with | [_, _], _ => rfl
  refine F__law_other_row.ok sc__law_other_row (fun vs H Q E h => spD_len h) (fun cdv A outer s H vs Q E hr h => ⟨tDS K (b__law_other_row c), PSs.nox ?_, body_ok (by decide) h⟩)
  have nd := sc__law_other_row.nd
  have hu1 := hu_of hr
  have hu64 := hu64_of hr
  have hu0 := hu0_of hr
  exact dss_cons (ds_set (i := 2) nd rfl (Or.inl rfl) (de_tuple rfl n_tuple (de_lc (own := [("_law_x", 3)]) rfl nd (di_seq (de_ix hu1 (de_var 0) (de_int))) (blkOk_by (N := N__law_other_row) (sc := defScope s__law_other_row) (by decide +kernel)) (fun _ _ _ _ _ => dgw_name (i := 3) nd rfl (by first | exact Or.inl rfl | exact Or.inr rfl)) (fun _ _ _ _ _ => dts_nil) (fun _ _ _ _ _ => de_call O__law_other hr rfl G__law_other F__law_other.kp B__law_other (da_cons (de_var 3) (da_cons (de_var 1) da_nil))))))
    (dss_one (ds_ret (de_tup (da_cons (de_call O__law_other hr rfl G__law_other F__law_other.kp B__law_other (da_cons (de_ix hu1 (de_var 0) (de_int)) (da_cons (de_var 1) da_nil))) (da_cons (de_ix hu1 (de_var 0) (de_int)) (da_cons (de_ix hu1 (de_var 0) (de_int)) (da_cons (de_var 2) (da_cons (de_ix hu1 (de_var 0) (de_int)) (da_cons (de_ix hu1 (de_var 0) (de_int)) da_nil)))))))))
abbrev N__law_renamed : List PySem.Str := (["_law_middle_here", "_law_way", "_law_functions", "_law_name_here", "_law_kind", "_law_blocks", "_law_made", "_law_params_here", "_law_rows", "_law_end_here", "_law_x", "_law_one", "_law_row"] : List PySem.Str)
def b__law_renamed (c : Nat → FnD) : SM := seqS (setS 2 (lstF (nilF)))
  (seqS (forS (seqI (opF getD (varF 0) (cF (.int 1)))) (tupG 3 (consG (nameG 3) (consG (nameG 4) (consG (nameG 5) (nilG))))) (seqS (setS 6 (lstF (nilF)))
  (seqS (forS (seqI (varF 5)) (tupG 3 (consG (nameG 7) (consG (nameG 8) (consG (nameG 9) (nilG))))) (seqS (setS 7 (unF tupleD (lcF (seqI (varF 7)) (tupG 2 (consG (nameG 10) (consG (nameG 11) (nilG)))) (yesF) (tupF (consF (callF 2 (c 24) (consF (varF 10) (consF (varF 1) nilF))) (consF (varF 11) nilF))) [10, 11])))
  (seqS (setS 8 (unF tupleD (lcF (seqI (varF 8)) (nameG 12) (yesF) (callF 2 (c 26) (consF (varF 12) (consF (varF 1) nilF))) [12])))
  (exprS (methF isL appendD (varF 6) (consF (tupF (consF (varF 7) (consF (varF 8) (consF (callF 2 (c 25) (consF (varF 9) (consF (varF 1) nilF))) nilF)))) nilF))))))
  (exprS (methF isL appendD (varF 2) (consF (tupF (consF (varF 3) (consF (varF 4) (consF (unF tupleD (varF 6)) nilF)))) nilF))))))
  (retS (tupF (consF (opF getD (varF 0) (cF (.int 0))) (consF (unF tupleD (varF 2)) nilF)))))
theorem sc__law_renamed : FnScope N__law_renamed ["_law_middle_here", "_law_way"] (defScope s__law_renamed) := ⟨rfl, rfl, rfl, by decide +kernel, rfl, by decide +kernel, by decide +kernel⟩
theorem ok__law_renamed {P : Program} {w : World} {K : PySem.W.Frag} {mg : Str → Option Value} {base : Heap} {k : Nat} {c : Nat → FnD} {f__law_renamed : Addr} {fd__law_renamed : FuncData} (F__law_renamed : FnP K "_law_renamed" s__law_renamed f__law_renamed fd__law_renamed) {f__law_other : Addr} {fd__law_other : FuncData} (F__law_other : FnP K "_law_other" s__law_other f__law_other fd__law_other) (G__law_other : mg "_law_other" = some (.ref f__law_other)) (O__law_other : FnOk P w K mg base CX0 k f__law_other fd__law_other ["_law_x", "_law_way"] (spD K 2 (c 24))) {f__law_other_row : Addr} {fd__law_other_row : FuncData} (F__law_other_row : FnP K "_law_other_row" s__law_other_row f__law_other_row fd__law_other_row) (G__law_other_row : mg "_law_other_row" = some (.ref f__law_other_row)) (O__law_other_row : FnOk P w K mg base CX0 k f__law_other_row fd__law_other_row ["_law_row", "_law_way"] (spD K 2 (c 26))) {f__law_other_end : Addr} {fd__law_other_end : FuncData} (F__law_other_end : FnP K "_law_other_end" s__law_other_end f__law_other_end fd__law_other_end) (G__law_other_end : mg "_law_other_end" = some (.ref f__law_other_end)) (O__law_other_end : FnOk P w K mg base CX0 k f__law_other_end fd__law_other_end ["_law_end_here", "_law_way"] (spD K 2 (c 25))) (n_tuple : mg "tuple" = none) : FnOk P w K mg base CX0 (k + 1) f__law_renamed fd__law_renamed ["_law_middle_here", "_law_way"] (spD K 2 (bodyD N__law_renamed.length (b__law_renamed c))) := by
  have B__law_other : Binds K fd__law_other ["_law_x", "_law_way"] [] := F__law_other.bindsN fun _ _ _ _ _ _ us hl => match us, hl with | [_, _], _ => rfl
  have B__law_other_row : Binds K fd__law_other_row ["_law_row", "_law_way"] [] := F__law_other_row.bindsN fun _ _ _ _ _ _ us hl => match us, hl with | [_, _], _ => rfl
  have B__law_other_end : Binds K fd__law_other_end ["_law_end_here", "_law_way"] [] := F__law_other_end.bindsN fun _ _ _ _ _ _ us hl => match us, hl with | [_, _], _ => rfl
  refine F__law_renamed.ok sc__law_renamed (fun vs H Q E h => spD_len h) (fun cdv A outer s H vs Q E hr h => ⟨tDS K (b__law_renamed c), PSs.nox ?_, body_ok (by decide) h⟩)
  have nd := sc__law_renamed.nd
  have hu1 := hu_of hr
  have hu64 := hu64_of hr
  have hu0 := hu0_of hr
  exact dss_cons (ds_set (i := 2) nd rfl (Or.inl rfl) (de_lst (da_nil)))
    (dss_cons (ds_for PassesOwn.never rfl (di_seq (de_ix hu1 (de_var 0) (de_int))) (dg_tup rfl (dgs_cons (dg_name (i := 3) nd rfl (Or.inl rfl)) (dgs_cons (dg_name (i := 4) nd rfl (Or.inl rfl)) (dgs_cons (dg_name (i := 5) nd rfl (Or.inl rfl)) (dgs_nil))))) (dss_cons (ds_set (i := 6) nd rfl (Or.inl rfl) (de_lst (da_nil)))
    (dss_cons (ds_for PassesOwn.never rfl (di_seq (de_var 5)) (dg_tup rfl (dgs_cons (dg_name (i := 7) nd rfl (Or.inl rfl)) (dgs_cons (dg_name (i := 8) nd rfl (Or.inl rfl)) (dgs_cons (dg_name (i := 9) nd rfl (Or.inl rfl)) (dgs_nil))))) (dss_cons (ds_set (i := 7) nd rfl (Or.inl rfl) (de_tuple rfl n_tuple (de_lc (own := [("_law_x", 10), ("_law_one", 11)]) rfl nd (di_seq (de_var 7)) (blkOk_by (N := N__law_renamed) (sc := defScope s__law_renamed) (by decide +kernel)) (fun _ _ _ _ _ => dgw_tup rfl (dgsw_cons (dgw_name (i := 10) nd rfl (by first | exact Or.inl rfl | exact Or.inr rfl)) (dgsw_cons (dgw_name (i := 11) nd rfl (by first | exact Or.inl rfl | exact Or.inr rfl)) (dgsw_nil)))) (fun _ _ _ _ _ => dts_nil) (fun _ _ _ _ _ => de_tup (da_cons (de_call O__law_other hr rfl G__law_other F__law_other.kp B__law_other (da_cons (de_var 10) (da_cons (de_var 1) da_nil))) (da_cons (de_var 11) da_nil))))))
    (dss_cons (ds_set (i := 8) nd rfl (Or.inl rfl) (de_tuple rfl n_tuple (de_lc (own := [("_law_row", 12)]) rfl nd (di_seq (de_var 8)) (blkOk_by (N := N__law_renamed) (sc := defScope s__law_renamed) (by decide +kernel)) (fun _ _ _ _ _ => dgw_name (i := 12) nd rfl (by first | exact Or.inl rfl | exact Or.inr rfl)) (fun _ _ _ _ _ => dts_nil) (fun _ _ _ _ _ => de_call O__law_other_row hr rfl G__law_other_row F__law_other_row.kp B__law_other_row (da_cons (de_var 12) (da_cons (de_var 1) da_nil))))))
    (dss_one (ds_expr (de_append (de_var 6) (de_tup (da_cons (de_var 7) (da_cons (de_var 8) (da_cons (de_call O__law_other_end hr rfl G__law_other_end F__law_other_end.kp B__law_other_end (da_cons (de_var 9) (da_cons (de_var 1) da_nil))) da_nil))))))))))
    (dss_one (ds_expr (de_append (de_var 2) (de_tup (da_cons (de_var 3) (da_cons (de_var 4) (da_cons (de_tuple rfl n_tuple (de_var 6)) da_nil))))))))))
    (dss_one (ds_ret (de_tup (da_cons (de_ix hu1 (de_var 0) (de_int)) (da_cons (de_tuple rfl n_tuple (de_var 2)) da_nil))))))
abbrev N__law_asked_by : List PySem.Str := (["_law_end_here"] : List PySem.Str)
def b__law_asked_by (c : Nat → FnD) : SM := seqS (ifS (tstF (opF (eqD false) (opF getD (varF 0) (cF (.int 0))) (cF (.str "jump")))) (retS (opF getD (varF 0) (cF (.int 2)))) (nextS))
  (seqS (ifS (tstF (opF (eqD false) (opF getD (varF 0) (cF (.int 0))) (cF (.str "fail")))) (retS (tupF (nilF))) (nextS))
  (retS (tupF (consF (opF getD (varF 0) (cF (.int 1))) nilF))))
theorem sc__law_asked_by : FnScope N__law_asked_by ["_law_end_here"] (defScope s__law_asked_by) := ⟨rfl, rfl, rfl, by decide +kernel, rfl, by decide +kernel, by decide +kernel⟩
theorem ok__law_asked_by {P : Program} {w : World} {K : PySem.W.Frag} {mg : Str → Option Value} {base : Heap} {k : Nat} {c : Nat → FnD} {f__law_asked_by : Addr} {fd__law_asked_by : FuncData} (F__law_asked_by : FnP K "_law_asked_by" s__law_asked_by f__law_asked_by fd__law_asked_by) : FnOk P w K mg base CX0 (k + 1) f__law_asked_by fd__law_asked_by ["_law_end_here"] (spD K 1 (bodyD N__law_asked_by.length (b__law_asked_by c))) := by
  refine F__law_asked_by.ok sc__law_asked_by (fun vs H Q E h => spD_len h) (fun cdv A outer s H vs Q E hr h => ⟨tDS K (b__law_asked_by c), PSs.nox ?_, body_ok (by decide) h⟩)
  have nd := sc__law_asked_by.nd
  have hu1 := hu_of hr
  have hu64 := hu64_of hr
  have hu0 := hu0_of hr
  exact dss_cons (ds_if (dt_eq hu64 (de_ix hu1 (de_var 0) (de_int)) (de_str)) (dss_one (ds_ret (de_ix hu1 (de_var 0) (de_int)))) (dss_nil))
    (dss_cons (ds_if (dt_eq hu64 (de_ix hu1 (de_var 0) (de_int)) (de_str)) (dss_one (ds_ret (de_tup (da_nil)))) (dss_nil))
    (dss_one (ds_ret (de_tup (da_cons (de_ix hu1 (de_var 0) (de_int)) da_nil)))))
abbrev N__law_goals : List PySem.Str := (["_law_end_here"] : List PySem.Str)
def b__law_goals (c : Nat → FnD) : SM := seqS (ifS (tstF (opF (eqD false) (opF getD (varF 0) (cF (.int 0))) (cF (.str "jump")))) (retS (lstF (consF (opF getD (varF 0) (cF (.int 1))) nilF))) (nextS))
  (seqS (ifS (tstF (opF (eqD false) (opF getD (varF 0) (cF (.int 0))) (cF (.str "branch")))) (retS (lstF (consF (opF getD (varF 0) (cF (.int 2))) (consF (opF getD (varF 0) (cF (.int 3))) nilF)))) (nextS))
  (retS (lstF (nilF))))
theorem sc__law_goals : FnScope N__law_goals ["_law_end_here"] (defScope s__law_goals) := ⟨rfl, rfl, rfl, by decide +kernel, rfl, by decide +kernel, by decide +kernel⟩
theorem ok__law_goals {P : Program} {w : World} {K : PySem.W.Frag} {mg : Str → Option Value} {base : Heap} {k : Nat} {c : Nat → FnD} {f__law_goals : Addr} {fd__law_goals : FuncData} (F__law_goals : FnP K "_law_goals" s__law_goals f__law_goals fd__law_goals) : FnOk P w K mg base CX0 (k + 1) f__law_goals fd__law_goals ["_law_end_here"] (spD K 1 (bodyD N__law_goals.length (b__law_goals c))) := by
  refine F__law_goals.ok sc__law_goals (fun vs H Q E h => spD_len h) (fun cdv A outer s H vs Q E hr h => ⟨tDS K (b__law_goals c), PSs.nox ?_, body_ok (by decide) h⟩)
  have nd := sc__law_goals.nd
  have hu1 := hu_of hr
  have hu64 := hu64_of hr
  have hu0 := hu0_of hr
  exact dss_cons (ds_if (dt_eq hu64 (de_ix hu1 (de_var 0) (de_int)) (de_str)) (dss_one (ds_ret (de_lst (da_cons (de_ix hu1 (de_var 0) (de_int)) da_nil)))) (dss_nil))
    (dss_cons (ds_if (dt_eq hu64 (de_ix hu1 (de_var 0) (de_int)) (de_str)) (dss_one (ds_ret (de_lst (da_cons (de_ix hu1 (de_var 0) (de_int)) (da_cons (de_ix hu1 (de_var 0) (de_int)) da_nil))))) (dss_nil))
    (dss_one (ds_ret (de_lst (da_nil)))))
abbrev N__law_met : List PySem.Str := (["_law_block", "_law_x", "_law_row"] : List PySem.Str)
def b__law_met (c : Nat → FnD) : SM := seqS (forS (seqI (opF getD (varF 0) (cF (.int 1)))) (nameG 2) (seqS (ifS (tstF (opF (inD false) (varF 1) (opF getD (varF 2) (cF (.int 3))))) (retS (cF (.str "used"))) (nextS))
  (ifS (tstF (opF (eqD false) (opF getD (varF 2) (cF (.int 0))) (varF 1))) (retS (cF (.str "given"))) (nextS))))
  (retS (opF getD (lstF (consF (cF (.str "on")) (consF (cF (.str "used")) nilF))) (unF intD (opF (inD false) (varF 1) (callF 1 (c 28) (consF (opF getD (varF 0) (cF (.int 2))) nilF))))))
theorem sc__law_met : FnScope N__law_met ["_law_block", "_law_x"] (defScope s__law_met) := ⟨rfl, rfl, rfl, by decide +kernel, rfl, by decide +kernel, by decide +kernel⟩
theorem ok__law_met {P : Program} {w : World} {K : PySem.W.Frag} {mg : Str → Option Value} {base : Heap} {k : Nat} {c : Nat → FnD} {f__law_met : Addr} {fd__law_met : FuncData} (F__law_met : FnP K "_law_met" s__law_met f__law_met fd__law_met) {f__law_asked_by : Addr} {fd__law_asked_by : FuncData} (F__law_asked_by : FnP K "_law_asked_by" s__law_asked_by f__law_asked_by fd__law_asked_by) (G__law_asked_by : mg "_law_asked_by" = some (.ref f__law_asked_by)) (O__law_asked_by : FnOk P w K mg base CX0 k f__law_asked_by fd__law_asked_by ["_law_end_here"] (spD K 1 (c 28))) (n_int : mg "int" = none) : FnOk P w K mg base CX0 (k + 1) f__law_met fd__law_met ["_law_block", "_law_x"] (spD K 2 (bodyD N__law_met.length (b__law_met c))) := by
  have B__law_asked_by : Binds K fd__law_asked_by ["_law_end_here"] [] := F__law_asked_by.bindsN fun _ _ _ _ _ _ us hl => match us, hl with | [_], _ => rfl
  refine F__law_met.ok sc__law_met (fun vs H Q E h => spD_len h) (fun cdv A outer s H vs Q E hr h => ⟨tDS K (b__law_met c), PSs.nox ?_, body_ok (by decide) h⟩)
  have nd := sc__law_met.nd
  have hu1 := hu_of hr
  have hu64 := hu64_of hr
  have hu0 := hu0_of hr
  exact dss_cons (ds_for PassesOwn.never rfl (di_seq (de_ix hu1 (de_var 0) (de_int))) (dg_name (i := 2) nd rfl (Or.inl rfl)) (dss_cons (ds_if (dt_in hu1 (de_var 1) (de_ix hu1 (de_var 2) (de_int))) (dss_one (ds_ret (de_str))) (dss_nil))
    (dss_one (ds_if (dt_eq hu64 (de_ix hu1 (de_var 2) (de_int)) (de_var 1)) (dss_one (ds_ret (de_str))) (dss_nil)))))
    (dss_one (ds_ret (de_ix hu1 (de_lst (da_cons (de_str) (da_cons (de_str) da_nil))) (de_intc rfl n_int (de_in hu1 (de_var 1) (de_call O__law_asked_by hr rfl G__law_asked_by F__law_asked_by.kp B__law_asked_by (da_cons (de_ix hu1 (de_var 0) (de_int)) da_nil)))))))
abbrev N__law_lives : List PySem.Str := (["_law_blocks", "_law_at", "_law_x", "_law_seen", "_law_waiting", "_law_here", "_law_way", "_law_goals_here", "_law_goal"] : List PySem.Str)
def b__law_lives (c : Nat → FnD) : SM := seqS (setS 3 (newF))
  (seqS (setS 4 (lstF (consF (varF 1) nilF)))
  (seqS (whileS (tstF (opF (eqD true) (varF 4) (lstF (nilF)))) (seqS (setS 5 (methF isL popD (varF 4) nilF))
  (seqS (ifS (tstF (opF (inD false) (varF 5) (varF 3))) (cntS) (nextS))
  (seqS (asgS (cF (.bl true)) (subG (varF 3) (varF 5)))
  (seqS (setS 6 (callF 2 (c 30) (consF (opF getD (varF 0) (varF 5)) (consF (varF 2) nilF))))
  (seqS (ifS (tstF (opF (eqD false) (varF 6) (cF (.str "used")))) (retS (cF (.bl true))) (nextS))
  (ifS (tstF (opF (eqD false) (varF 6) (cF (.str "on")))) (seqS (setS 7 (callF 1 (c 29) (consF (opF getD (opF getD (varF 0) (varF 5)) (cF (.int 2))) nilF)))
  (exprS (methF isL extendD (varF 4) (consF (lcF (seqI (varF 7)) (nameG 8) (tstF (opF (inD true) (varF 2) (callF 1 (c 32) (consF (opF getD (varF 0) (varF 8)) nilF)))) (varF 8) [8]) nilF)))) (nextS))))))))
  (retS (cF (.bl false)))))
theorem sc__law_lives : FnScope N__law_lives ["_law_blocks", "_law_at", "_law_x"] (defScope s__law_lives) := ⟨rfl, rfl, rfl, by decide +kernel, rfl, by decide +kernel, by decide +kernel⟩
theorem ok__law_lives {P : Program} {w : World} {K : PySem.W.Frag} {mg : Str → Option Value} {base : Heap} {k : Nat} {c : Nat → FnD} {f__law_lives : Addr} {fd__law_lives : FuncData} (F__law_lives : FnP K "_law_lives" s__law_lives f__law_lives fd__law_lives) {f__law_met : Addr} {fd__law_met : FuncData} (F__law_met : FnP K "_law_met" s__law_met f__law_met fd__law_met) (G__law_met : mg "_law_met" = some (.ref f__law_met)) (O__law_met : FnOk P w K mg base CX0 k f__law_met fd__law_met ["_law_block", "_law_x"] (spD K 2 (c 30))) {f__law_goals : Addr} {fd__law_goals : FuncData} (F__law_goals : FnP K "_law_goals" s__law_goals f__law_goals fd__law_goals) (G__law_goals : mg "_law_goals" = some (.ref f__law_goals)) (O__law_goals : FnOk P w K mg base CX0 k f__law_goals fd__law_goals ["_law_end_here"] (spD K 1 (c 29))) {f__law_params : Addr} {fd__law_params : FuncData} (F__law_params : FnP K "_law_params" s__law_params f__law_params fd__law_params) (G__law_params : mg "_law_params" = some (.ref f__law_params)) (O__law_params : FnOk P w K mg base CX0 k f__law_params fd__law_params ["_law_block"] (spD K 1 (c 32))) : FnOk P w K mg base CX0 (k + 1) f__law_lives fd__law_lives ["_law_blocks", "_law_at", "_law_x"] (spD K 3 (bodyD N__law_lives.length (b__law_lives c))) := by
  have B__law_met : Binds K fd__law_met ["_law_block", "_law_x"] [] := F__law_met.bindsN fun _ _ _ _ _ _ us hl => match us, hl with | [_, _], _ => rfl
  have B__law_goals : Binds K fd__law_goals ["_law_end_here"] [] := F__law_goals.bindsN fun _ _ _ _ _ _ us hl => match us, hl with | [_], _ => rfl
  have B__law_params : Binds K fd__law_params ["_law_block"] [] := F__law_params.bindsN fun _ _ _ _ _ _ us hl => match us, hl with | [_], _ => rfl
  refine F__law_lives.ok sc__law_lives (fun vs H Q E h => spD_len h) (fun cdv A outer s H vs Q E hr h => ⟨tDS K (b__law_lives c), PSs.nox ?_, body_ok (by decide) h⟩)
  have nd := sc__law_lives.nd
  have hu1 := hu_of hr
  have hu64 := hu64_of hr
  have hu0 := hu0_of hr
  exact dss_cons (ds_set (i := 3) nd rfl (Or.inl rfl) (de_new))
    (dss_cons (ds_set (i := 4) nd rfl (Or.inl rfl) (de_lst (da_cons (de_var 1) da_nil)))
    (dss_cons (ds_while PassesOwn.never (dt_ne hu64 (de_var 4) (de_lst (da_nil))) (dss_cons (ds_set (i := 5) nd rfl (Or.inl rfl) (de_pop (de_var 4)))
    (dss_cons (ds_if (dt_in hu1 (de_var 5) (de_var 3)) (dss_one (ds_continue)) (dss_nil))
    (dss_cons (ds_asg (de_bl) (dg_sub hu1 (de_var 3) (de_var 5)))
    (dss_cons (ds_set (i := 6) nd rfl (Or.inl rfl) (de_call O__law_met hr rfl G__law_met F__law_met.kp B__law_met (da_cons (de_ix hu1 (de_var 0) (de_var 5)) (da_cons (de_var 2) da_nil))))
    (dss_cons (ds_if (dt_eq hu64 (de_var 6) (de_str)) (dss_one (ds_ret (de_bl))) (dss_nil))
    (dss_one (ds_if (dt_eq hu64 (de_var 6) (de_str)) (dss_cons (ds_set (i := 7) nd rfl (Or.inl rfl) (de_call O__law_goals hr rfl G__law_goals F__law_goals.kp B__law_goals (da_cons (de_ix hu1 (de_ix hu1 (de_var 0) (de_var 5)) (de_int)) da_nil)))
    (dss_one (ds_expr (de_extend (de_var 4) (de_lc (own := [("_law_goal", 8)]) rfl nd (di_seq (de_var 7)) (blkOk_by (N := N__law_lives) (sc := defScope s__law_lives) (by decide +kernel)) (fun _ _ _ _ _ => dgw_name (i := 8) nd rfl (by first | exact Or.inl rfl | exact Or.inr rfl)) (fun _ _ _ _ _ => dts_one (dt_notin hu1 (de_var 2) (de_call O__law_params hr rfl G__law_params F__law_params.kp B__law_params (da_cons (de_ix hu1 (de_var 0) (de_var 8)) da_nil)))) (fun _ _ _ _ _ => de_var 8)))))) (dss_nil)))))))))
    (dss_one (ds_ret (de_bl)))))
abbrev N__law_params : List PySem.Str := (["_law_block", "_law_x", "_law_kind"] : List PySem.Str)
def b__law_params (c : Nat → FnD) : SM := retS (lcF (seqI (opF getD (varF 0) (cF (.int 0)))) (tupG 2 (consG (nameG 1) (consG (nameG 2) (nilG)))) (yesF) (varF 1) [1, 2])
theorem sc__law_params : FnScope N__law_params ["_law_block"] (defScope s__law_params) := ⟨rfl, rfl, rfl, by decide +kernel, rfl, by decide +kernel, by decide +kernel⟩
theorem ok__law_params {P : Program} {w : World} {K : PySem.W.Frag} {mg : Str → Option Value} {base : Heap} {k : Nat} {c : Nat → FnD} {f__law_params : Addr} {fd__law_params : FuncData} (F__law_params : FnP K "_law_params" s__law_params f__law_params fd__law_params) : FnOk P w K mg base CX0 (k + 1) f__law_params fd__law_params ["_law_block"] (spD K 1 (bodyD N__law_params.length (b__law_params c))) := by
  refine F__law_params.ok sc__law_params (fun vs H Q E h => spD_len h) (fun cdv A outer s H vs Q E hr h => ⟨tDS K (b__law_params c), PSs.nox ?_, body_ok (by decide) h⟩)
  have nd := sc__law_params.nd
  have hu1 := hu_of hr
  have hu64 := hu64_of hr
  have hu0 := hu0_of hr
  exact dss_one (ds_ret (de_lc (own := [("_law_x", 1), ("_law_kind", 2)]) rfl nd (di_seq (de_ix hu1 (de_var 0) (de_int))) (blkOk_by (N := N__law_params) (sc := defScope s__law_params) (by decide +kernel)) (fun _ _ _ _ _ => dgw_tup rfl (dgsw_cons (dgw_name (i := 1) nd rfl (by first | exact Or.inl rfl | exact Or.inr rfl)) (dgsw_cons (dgw_name (i := 2) nd rfl (by first | exact Or.inl rfl | exact Or.inr rfl)) (dgsw_nil)))) (fun _ _ _ _ _ => dts_nil) (fun _ _ _ _ _ => de_var 1)))
abbrev N__law_given : List PySem.Str := (["_law_blocks", "_law_names", "_law_block", "_law_row"] : List PySem.Str)
def b__law_given (c : Nat → FnD) : SM := seqS (setS 1 (lstF (nilF)))
  (seqS (forS (seqI (varF 0)) (nameG 2) (setS 1 (opF addD (opF addD (varF 1) (callF 1 (c 32) (consF (varF 2) nilF))) (lcF (seqI (opF getD (varF 2) (cF (.int 1)))) (nameG 3) (tstF (opF (isND true) (opF getD (varF 3) (cF (.int 0))) (cF .non))) (opF getD (varF 3) (cF (.int 0))) [3]))))
  (retS (varF 1)))
theorem sc__law_given : FnScope N__law_given ["_law_blocks"] (defScope s__law_given) := ⟨rfl, rfl, rfl, by decide +kernel, rfl, by decide +kernel, by decide +kernel⟩
theorem ok__law_given {P : Program} {w : World} {K : PySem.W.Frag} {mg : Str → Option Value} {base : Heap} {k : Nat} {c : Nat → FnD} {f__law_given : Addr} {fd__law_given : FuncData} (F__law_given : FnP K "_law_given" s__law_given f__law_given fd__law_given) {f__law_params : Addr} {fd__law_params : FuncData} (F__law_params : FnP K "_law_params" s__law_params f__law_params fd__law_params) (G__law_params : mg "_law_params" = some (.ref f__law_params)) (O__law_params : FnOk P w K mg base CX0 k f__law_params fd__law_params ["_law_block"] (spD K 1 (c 32))) : FnOk P w K mg base CX0 (k + 1) f__law_given fd__law_given ["_law_blocks"] (spD K 1 (bodyD N__law_given.length (b__law_given c))) := by
  have B__law_params : Binds K fd__law_params ["_law_block"] [] := F__law_params.bindsN fun _ _ _ _ _ _ us hl => match us, hl with | [_], _ => rfl
  refine F__law_given.ok sc__law_given (fun vs H Q E h => spD_len h) (fun cdv A outer s H vs Q E hr h => ⟨tDS K (b__law_given c), PSs.nox ?_, body_ok (by decide) h⟩)
  have nd := sc__law_given.nd
  have hu1 := hu_of hr
  have hu64 := hu64_of hr
  have hu0 := hu0_of hr
  exact dss_cons (ds_set (i := 1) nd rfl (Or.inl rfl) (de_lst (da_nil)))
    (dss_cons (ds_for PassesOwn.never rfl (di_seq (de_var 0)) (dg_name (i := 2) nd rfl (Or.inl rfl)) (dss_one (ds_set (i := 1) nd rfl (Or.inl rfl) (de_add (de_add (de_var 1) (de_call O__law_params hr rfl G__law_params F__law_params.kp B__law_params (da_cons (de_var 2) da_nil))) (de_lc (own := [("_law_row", 3)]) rfl nd (di_seq (de_ix hu1 (de_var 2) (de_int))) (blkOk_by (N := N__law_given) (sc := defScope s__law_given) (by decide +kernel)) (fun _ _ _ _ _ => dgw_name (i := 3) nd rfl (by first | exact Or.inl rfl | exact Or.inr rfl)) (fun _ _ _ _ _ => dts_one (dt_isnot (de_ix hu1 (de_var 3) (de_int)) (de_non))) (fun _ _ _ _ _ => de_ix hu1 (de_var 3) (de_int)))))))
    (dss_one (ds_ret (de_var 1))))
abbrev N__law_changed : List PySem.Str := (["_law_found", "_law_row"] : List PySem.Str)
def b__law_changed (c : Nat → FnD) : SM := seqS (forS (seqI (varF 0)) (nameG 1) (exprS (methF isL appendD (varF 1) (consF (unF negD (cF (.int 1))) nilF))))
  (exprS (methF isL appendD (varF 0) (consF (lstF (nilF)) nilF)))
theorem sc__law_changed : FnScope N__law_changed ["_law_found"] (defScope s__law_changed) := ⟨rfl, rfl, rfl, by decide +kernel, rfl, by decide +kernel, by decide +kernel⟩
theorem ok__law_changed {P : Program} {w : World} {K : PySem.W.Frag} {mg : Str → Option Value} {base : Heap} {k : Nat} {c : Nat → FnD} {f__law_changed : Addr} {fd__law_changed : FuncData} (F__law_changed : FnP K "_law_changed" s__law_changed f__law_changed fd__law_changed) : FnOk P w K mg base CX0 (k + 1) f__law_changed fd__law_changed ["_law_found"] (spD K 1 (bodyD N__law_changed.length (b__law_changed c))) := by
  refine F__law_changed.ok sc__law_changed (fun vs H Q E h => spD_len h) (fun cdv A outer s H vs Q E hr h => ⟨tDS K (b__law_changed c), PSs.nox ?_, body_ok (by decide) h⟩)
  have nd := sc__law_changed.nd
  have hu1 := hu_of hr
  have hu64 := hu64_of hr
  have hu0 := hu0_of hr
  exact dss_cons (ds_for PassesOwn.never rfl (di_seq (de_var 0)) (dg_name (i := 1) nd rfl (Or.inl rfl)) (dss_one (ds_expr (de_append (de_var 1) (de_neg (de_int))))))
    (dss_one (ds_expr (de_append (de_var 0) (de_lst (da_nil)))))
abbrev N_law : List PySem.Str := (["_law_script", "_law_pot_here", "_law_way", "_law_middle_here", "_law_name_here", "_law_kind", "_law_blocks", "_law_names", "_law_due", "_law_found", "_law_at", "_law_x", "_law_row"] : List PySem.Str)
def b_law (c : Nat → FnD) : SM := seqS (setS 1 (callF 1 (c 9) (consF (varF 0) nilF)))
  (seqS (setS 2 (callF 2 (c 11) (consF (varF 1) (consF (cF (.int 3)) nilF))))
  (seqS (setS 3 (callF 2 (c 27) (consF (callF 1 (c 23) (consF (varF 1) nilF)) (consF (varF 2) nilF))))
  (seqS (forS (seqI (opF getD (varF 3) (cF (.int 1)))) (tupG 3 (consG (nameG 4) (consG (nameG 5) (consG (nameG 6) (nilG))))) (seqS (setS 7 (unF sortedD (callF 1 (c 33) (consF (varF 6) nilF))))
  (seqS (setS 8 (lcF (rng1I (unF lenD (varF 6))) (nameG 10) (yesF) (lcF (seqI (varF 7)) (nameG 11) (tstF (callF 3 (c 31) (consF (varF 6) (consF (varF 10) (consF (varF 11) nilF))))) (varF 11) [11]) [10]))
  (seqS (setS 9 (callF 1 (c 8) (consF (tupF (consF (varF 4) (consF (varF 5) (consF (varF 6) nilF)))) nilF)))
  (seqS (ifS (orF (notF (tstF (isiF "list" (varF 9)))) (tstF (opF (eqD true) (varF 9) (varF 8)))) (retS (cF (.bl false))) (nextS))
  (seqS (ifS (notF (tstF (unF (allD fun bs => bs.all id) (lcF (seqI (varF 9)) (nameG 12) (yesF) (isiF "list" (varF 12)) [12])))) (retS (cF (.bl false))) (nextS))
  (seqS (exprS (callF 1 (c 34) (consF (varF 9) nilF)))
  (ifS (tstF (opF (eqD true) (callF 1 (c 8) (consF (tupF (consF (varF 4) (consF (varF 5) (consF (varF 6) nilF)))) nilF)) (varF 8))) (retS (cF (.bl false))) (nextS)))))))))
  (retS (cF (.bl true))))))
theorem sc_law : FnScope N_law ["_law_script"] (defScope s_law) := ⟨rfl, rfl, rfl, by decide +kernel, rfl, by decide +kernel, by decide +kernel⟩
theorem ok_law {P : Program} {w : World} {K : PySem.W.Frag} {mg : Str → Option Value} {base : Heap} {k : Nat} {c : Nat → FnD} {f_law : Addr} {fd_law : FuncData} (F_law : FnP K "law" s_law f_law fd_law) {f__law_pot : Addr} {fd__law_pot : FuncData} (F__law_pot : FnP K "_law_pot" s__law_pot f__law_pot fd__law_pot) (G__law_pot : mg "_law_pot" = some (.ref f__law_pot)) (O__law_pot : FnOk P w K mg base CX0 k f__law_pot fd__law_pot ["_law_cells"] (spD K 1 (c 9))) {f__law_take : Addr} {fd__law_take : FuncData} (F__law_take : FnP K "_law_take" s__law_take f__law_take fd__law_take) (G__law_take : mg "_law_take" = some (.ref f__law_take)) (O__law_take : FnOk P w K mg base CX0 k f__law_take fd__law_take ["_law_pot_here", "_law_many"] (spD K 2 (c 11))) {f__law_renamed : Addr} {fd__law_renamed : FuncData} (F__law_renamed : FnP K "_law_renamed" s__law_renamed f__law_renamed fd__law_renamed) (G__law_renamed : mg "_law_renamed" = some (.ref f__law_renamed)) (O__law_renamed : FnOk P w K mg base CX0 k f__law_renamed fd__law_renamed ["_law_middle_here", "_law_way"] (spD K 2 (c 27))) {f__law_middle : Addr} {fd__law_middle : FuncData} (F__law_middle : FnP K "_law_middle" s__law_middle f__law_middle fd__law_middle) (G__law_middle : mg "_law_middle" = some (.ref f__law_middle)) (O__law_middle : FnOk P w K mg base CX0 k f__law_middle fd__law_middle ["_law_pot_here"] (spD K 1 (c 23))) {f__law_given : Addr} {fd__law_given : FuncData} (F__law_given : FnP K "_law_given" s__law_given f__law_given fd__law_given) (G__law_given : mg "_law_given" = some (.ref f__law_given)) (O__law_given : FnOk P w K mg base CX0 k f__law_given fd__law_given ["_law_blocks"] (spD K 1 (c 33))) {f__law_lives : Addr} {fd__law_lives : FuncData} (F__law_lives : FnP K "_law_lives" s__law_lives f__law_lives fd__law_lives) (G__law_lives : mg "_law_lives" = some (.ref f__law_lives)) (O__law_lives : FnOk P w K mg base CX0 k f__law_lives fd__law_lives ["_law_blocks", "_law_at", "_law_x"] (spD K 3 (c 31))) {f_living : Addr} {fd_living : FuncData} (F_living : FnP K "living" s_living f_living fd_living) (G_living : mg "living" = some (.ref f_living)) (O_living : FnOk P w K mg base CX0 k f_living fd_living ["function"] (spD K 1 (c 8))) {f__law_changed : Addr} {fd__law_changed : FuncData} (F__law_changed : FnP K "_law_changed" s__law_changed f__law_changed fd__law_changed) (G__law_changed : mg "_law_changed" = some (.ref f__law_changed)) (O__law_changed : FnOk P w K mg base CX0 k f__law_changed fd__law_changed ["_law_found"] (spD K 1 (c 34))) (n_sorted : mg "sorted" = none) (n_range : mg "range" = none) (n_len : mg "len" = none) (n_isinstance : mg "isinstance" = none) (n_list : mg "list" = none) (n_all : mg "all" = none) : FnOk P w K mg base CX0 (k + 1) f_law fd_law ["_law_script"] (spD K 1 (bodyD N_law.length (b_law c))) := by
  have B__law_pot : Binds K fd__law_pot ["_law_cells"] [] := F__law_pot.bindsN fun _ _ _ _ _ _ us hl => match us, hl with | [_], _ => rfl
  have B__law_take : Binds K fd__law_take ["_law_pot_here", "_law_many"] [] := F__law_take.bindsN fun _ _ _ _ _ _ us hl => match us, hl with | [_, _], _ => rfl
  have B__law_renamed : Binds K fd__law_renamed ["_law_middle_here", "_law_way"] [] := F__law_renamed.bindsN fun _ _ _ _ _ _ us hl => match us, hl with | [_, _], _ => rfl
  have B__law_middle : Binds K fd__law_middle ["_law_pot_here"] [] := F__law_middle.bindsN fun _ _ _ _ _ _ us hl => match us, hl with | [_], _ => rfl
  have B__law_given : Binds K fd__law_given ["_law_blocks"] [] := F__law_given.bindsN fun _ _ _ _ _ _ us hl => match us, hl with | [_], _ => rfl
  have B__law_lives : Binds K fd__law_lives ["_law_blocks", "_law_at", "_law_x"] [] := F__law_lives.bindsN fun _ _ _ _ _ _ us hl => match us, hl with | [_, _, _], _ => rfl
  have B_living : Binds K fd_living ["function"] [] := F_living.bindsN fun _ _ _ _ _ _ us hl => match us, hl with | [_], _ => rfl
  have B__law_changed : Binds K fd__law_changed ["_law_found"] [] := F__law_changed.bindsN fun _ _ _ _ _ _ us hl => match us, hl with | [_], _ => rfl
  refine F_law.ok sc_law (fun vs H Q E h => spD_len h) (fun cdv A outer s H vs Q E hr h => ⟨tDS K (b_law c), PSs.nox ?_, body_ok (by decide) h⟩)
  have nd := sc_law.nd
  have hu1 := hu_of hr
  have hu64 := hu64_of hr
  have hu0 := hu0_of hr
  exact dss_cons (ds_set (i := 1) nd rfl (Or.inl rfl) (de_call O__law_pot hr rfl G__law_pot F__law_pot.kp B__law_pot (da_cons (de_var 0) da_nil)))
    (dss_cons (ds_set (i := 2) nd rfl (Or.inl rfl) (de_call O__law_take hr rfl G__law_take F__law_take.kp B__law_take (da_cons (de_var 1) (da_cons (de_int) da_nil))))
    (dss_cons (ds_set (i := 3) nd rfl (Or.inl rfl) (de_call O__law_renamed hr rfl G__law_renamed F__law_renamed.kp B__law_renamed (da_cons (de_call O__law_middle hr rfl G__law_middle F__law_middle.kp B__law_middle (da_cons (de_var 1) da_nil)) (da_cons (de_var 2) da_nil))))
    (dss_cons (ds_for PassesOwn.never rfl (di_seq (de_ix hu1 (de_var 3) (de_int))) (dg_tup rfl (dgs_cons (dg_name (i := 4) nd rfl (Or.inl rfl)) (dgs_cons (dg_name (i := 5) nd rfl (Or.inl rfl)) (dgs_cons (dg_name (i := 6) nd rfl (Or.inr rfl)) (dgs_nil))))) (dss_cons (ds_set (i := 7) nd rfl (Or.inr rfl) (de_sorted rfl rfl n_sorted (de_call O__law_given hr rfl G__law_given F__law_given.kp B__law_given (da_cons (de_var 6) da_nil))))
    (dss_cons (ds_setLc (own := [("_law_at", 10)]) rfl nd rfl rfl (sw_true rfl rfl rfl (by decide +kernel)) (di_rng1 rfl n_range (de_len rfl n_len (de_var 6))) (blkOk_by (N := N_law) (sc := defScope s_law) (by decide +kernel)) (fun _ _ _ _ _ => dgw_name (i := 10) nd rfl (by first | exact Or.inl rfl | exact Or.inr rfl)) (fun _ _ _ _ _ => dts_nil) (fun _ _ _ _ _ => de_lc (own := [("_law_x", 11)]) rfl nd (di_seq (de_var 7)) (blkOk_by (by rfl)) (fun _ _ _ _ _ => dgw_name (i := 11) nd rfl (by first | exact Or.inl rfl | exact Or.inr rfl)) (fun _ _ _ _ _ => dts_one (dt_val (de_call O__law_lives hr rfl G__law_lives F__law_lives.kp B__law_lives (da_cons (de_var 6) (da_cons (de_var 10) (da_cons (de_var 11) da_nil)))))) (fun _ _ _ _ _ => de_var 11)))
    (dss_cons (ds_set (i := 9) nd rfl (Or.inl rfl) (de_call O_living hr rfl G_living F_living.kp B_living (da_cons (de_tup (da_cons (de_var 4) (da_cons (de_var 5) (da_cons (de_var 6) da_nil)))) da_nil)))
    (dss_cons (ds_if (PW.pt (dw_or (dt_not (dt_val (de_isi (T := "list") rfl n_isinstance rfl n_list (by decide +kernel) (de_var 9)))) (dw_or1 (dt_ne hu64 (de_var 9) (de_var 8))))) (dss_one (ds_ret (de_bl))) (dss_nil))
    (dss_cons (ds_if (dt_not (dt_val (de_all rfl rfl n_all (de_lc (own := [("_law_row", 12)]) rfl nd (di_seq (de_var 9)) (blkOk_by (N := N_law) (sc := defScope s_law) (by decide +kernel)) (fun _ _ _ _ _ => dgw_name (i := 12) nd rfl (by first | exact Or.inl rfl | exact Or.inr rfl)) (fun _ _ _ _ _ => dts_nil) (fun _ _ _ _ _ => de_isi (T := "list") rfl n_isinstance rfl n_list (by decide +kernel) (de_var 12)))))) (dss_one (ds_ret (de_bl))) (dss_nil))
    (dss_cons (ds_expr (de_call O__law_changed hr rfl G__law_changed F__law_changed.kp B__law_changed (da_cons (de_var 9) da_nil)))
    (dss_one (ds_if (dt_ne hu64 (de_call O_living hr rfl G_living F_living.kp B_living (da_cons (de_tup (da_cons (de_var 4) (da_cons (de_var 5) (da_cons (de_var 6) da_nil)))) da_nil)) (de_var 8)) (dss_one (ds_ret (de_bl))) (dss_nil))))))))))
    (dss_one (ds_ret (de_bl))))))
def bodies (c : Nat → FnD) : Nat → FnD
  | 0 => bodyD N_ends_leads.length (b_ends_leads c)
  | 1 => bodyD N_leads.length (b_leads c)
  | 2 => bodyD N_ends_args.length (b_ends_args c)
  | 3 => bodyD N_params_in.length (b_params_in c)
  | 4 => bodyD N_noted.length (b_noted c)
  | 5 => bodyD N_living_behind.length (b_living_behind c)
  | 6 => bodyD N_living_ahead.length (b_living_ahead c)
  | 7 => bodyD N_living_dicts.length (b_living_dicts c)
  | 8 => bodyD N_living.length (b_living c)
  | 9 => bodyD N__law_pot.length (b__law_pot c)
  | 10 => bodyD N__law_mix.length (b__law_mix c)
  | 11 => bodyD N__law_take.length (b__law_take c)
  | 12 => bodyD N__law_ops.length (b__law_ops c)
  | 13 => bodyD N__law_put.length (b__law_put c)
  | 14 => bodyD N__law_name.length (b__law_name c)
  | 15 => bodyD N__law_straight.length (b__law_straight c)
  | 16 => bodyD N__law_open.length (b__law_open c)
  | 17 => bodyD N__law_begin.length (b__law_begin c)
  | 18 => bodyD N__law_end.length (b__law_end c)
  | 19 => bodyD N__law_choice.length (b__law_choice c)
  | 20 => bodyD N__law_loop.length (b__law_loop c)
  | 21 => bodyD N__law_body.length (b__law_body c)
  | 22 => bodyD N__law_function.length (b__law_function c)
  | 23 => bodyD N__law_middle.length (b__law_middle c)
  | 24 => bodyD N__law_other.length (b__law_other c)
  | 25 => bodyD N__law_other_end.length (b__law_other_end c)
  | 26 => bodyD N__law_other_row.length (b__law_other_row c)
  | 27 => bodyD N__law_renamed.length (b__law_renamed c)
  | 28 => bodyD N__law_asked_by.length (b__law_asked_by c)
  | 29 => bodyD N__law_goals.length (b__law_goals c)
  | 30 => bodyD N__law_met.length (b__law_met c)
  | 31 => bodyD N__law_lives.length (b__law_lives c)
  | 32 => bodyD N__law_params.length (b__law_params c)
  | 33 => bodyD N__law_given.length (b__law_given c)
  | 34 => bodyD N__law_changed.length (b__law_changed c)
  | 35 => bodyD N_law.length (b_law c)
  | _ => fun _ _ => none
def runs : Nat → Nat → FnD
  | 0 => fun _ _ _ => none
  | k + 1 => bodies (runs k)
section
variable {P : Program} {w : World} {K : PySem.W.Frag} {mg : Str → Option Value} {base : Heap}
variable {f_ends_leads : Addr} {fd_ends_leads : FuncData}
variable {f_leads : Addr} {fd_leads : FuncData}
variable {f_ends_args : Addr} {fd_ends_args : FuncData}
variable {f_params_in : Addr} {fd_params_in : FuncData}
variable {f_noted : Addr} {fd_noted : FuncData}
variable {f_living_behind : Addr} {fd_living_behind : FuncData}
variable {f_living_ahead : Addr} {fd_living_ahead : FuncData}
variable {f_living_dicts : Addr} {fd_living_dicts : FuncData}
variable {f_living : Addr} {fd_living : FuncData}
variable {f__law_pot : Addr} {fd__law_pot : FuncData}
variable {f__law_mix : Addr} {fd__law_mix : FuncData}
variable {f__law_take : Addr} {fd__law_take : FuncData}
variable {f__law_ops : Addr} {fd__law_ops : FuncData}
variable {f__law_put : Addr} {fd__law_put : FuncData}
variable {f__law_name : Addr} {fd__law_name : FuncData}
variable {f__law_straight : Addr} {fd__law_straight : FuncData}
variable {f__law_open : Addr} {fd__law_open : FuncData}
variable {f__law_begin : Addr} {fd__law_begin : FuncData}
variable {f__law_end : Addr} {fd__law_end : FuncData}
variable {f__law_choice : Addr} {fd__law_choice : FuncData}
variable {f__law_loop : Addr} {fd__law_loop : FuncData}
variable {f__law_body : Addr} {fd__law_body : FuncData}
variable {f__law_function : Addr} {fd__law_function : FuncData}
variable {f__law_middle : Addr} {fd__law_middle : FuncData}
variable {f__law_other : Addr} {fd__law_other : FuncData}
variable {f__law_other_end : Addr} {fd__law_other_end : FuncData}
variable {f__law_other_row : Addr} {fd__law_other_row : FuncData}
variable {f__law_renamed : Addr} {fd__law_renamed : FuncData}
variable {f__law_asked_by : Addr} {fd__law_asked_by : FuncData}
variable {f__law_goals : Addr} {fd__law_goals : FuncData}
variable {f__law_met : Addr} {fd__law_met : FuncData}
variable {f__law_lives : Addr} {fd__law_lives : FuncData}
variable {f__law_params : Addr} {fd__law_params : FuncData}
variable {f__law_given : Addr} {fd__law_given : FuncData}
variable {f__law_changed : Addr} {fd__law_changed : FuncData}
variable {f_law : Addr} {fd_law : FuncData}
theorem ok_all (F_ends_leads : FnP K "ends_leads" s_ends_leads f_ends_leads fd_ends_leads) (G_ends_leads : mg "ends_leads" = some (.ref f_ends_leads)) (F_leads : FnP K "leads" s_leads f_leads fd_leads) (G_leads : mg "leads" = some (.ref f_leads)) (F_ends_args : FnP K "ends_args" s_ends_args f_ends_args fd_ends_args) (G_ends_args : mg "ends_args" = some (.ref f_ends_args)) (F_params_in : FnP K "params_in" s_params_in f_params_in fd_params_in) (G_params_in : mg "params_in" = some (.ref f_params_in)) (F_noted : FnP K "noted" s_noted f_noted fd_noted) (G_noted : mg "noted" = some (.ref f_noted)) (F_living_behind : FnP K "living_behind" s_living_behind f_living_behind fd_living_behind) (G_living_behind : mg "living_behind" = some (.ref f_living_behind)) (F_living_ahead : FnP K "living_ahead" s_living_ahead f_living_ahead fd_living_ahead) (G_living_ahead : mg "living_ahead" = some (.ref f_living_ahead)) (F_living_dicts : FnP K "living_dicts" s_living_dicts f_living_dicts fd_living_dicts) (G_living_dicts : mg "living_dicts" = some (.ref f_living_dicts)) (F_living : FnP K "living" s_living f_living fd_living) (G_living : mg "living" = some (.ref f_living)) (F__law_pot : FnP K "_law_pot" s__law_pot f__law_pot fd__law_pot) (G__law_pot : mg "_law_pot" = some (.ref f__law_pot)) (F__law_mix : FnP K "_law_mix" s__law_mix f__law_mix fd__law_mix) (G__law_mix : mg "_law_mix" = some (.ref f__law_mix)) (F__law_take : FnP K "_law_take" s__law_take f__law_take fd__law_take) (G__law_take : mg "_law_take" = some (.ref f__law_take)) (F__law_ops : FnP K "_law_ops" s__law_ops f__law_ops fd__law_ops) (G__law_ops : mg "_law_ops" = some (.ref f__law_ops)) (F__law_put : FnP K "_law_put" s__law_put f__law_put fd__law_put) (G__law_put : mg "_law_put" = some (.ref f__law_put)) (F__law_name : FnP K "_law_name" s__law_name f__law_name fd__law_name) (G__law_name : mg "_law_name" = some (.ref f__law_name)) (F__law_straight : FnP K "_law_straight" s__law_straight f__law_straight fd__law_straight) (G__law_straight : mg "_law_straight" = some (.ref f__law_straight)) (F__law_open : FnP K "_law_open" s__law_open f__law_open fd__law_open) (G__law_open : mg "_law_open" = some (.ref f__law_open)) (F__law_begin : FnP K "_law_begin" s__law_begin f__law_begin fd__law_begin) (G__law_begin : mg "_law_begin" = some (.ref f__law_begin)) (F__law_end : FnP K "_law_end" s__law_end f__law_end fd__law_end) (G__law_end : mg "_law_end" = some (.ref f__law_end)) (F__law_choice : FnP K "_law_choice" s__law_choice f__law_choice fd__law_choice) (G__law_choice : mg "_law_choice" = some (.ref f__law_choice)) (F__law_loop : FnP K "_law_loop" s__law_loop f__law_loop fd__law_loop) (G__law_loop : mg "_law_loop" = some (.ref f__law_loop)) (F__law_body : FnP K "_law_body" s__law_body f__law_body fd__law_body) (G__law_body : mg "_law_body" = some (.ref f__law_body)) (F__law_function : FnP K "_law_function" s__law_function f__law_function fd__law_function) (G__law_function : mg "_law_function" = some (.ref f__law_function)) (F__law_middle : FnP K "_law_middle" s__law_middle f__law_middle fd__law_middle) (G__law_middle : mg "_law_middle" = some (.ref f__law_middle)) (F__law_other : FnP K "_law_other" s__law_other f__law_other fd__law_other) (G__law_other : mg "_law_other" = some (.ref f__law_other)) (F__law_other_end : FnP K "_law_other_end" s__law_other_end f__law_other_end fd__law_other_end) (G__law_other_end : mg "_law_other_end" = some (.ref f__law_other_end)) (F__law_other_row : FnP K "_law_other_row" s__law_other_row f__law_other_row fd__law_other_row) (G__law_other_row : mg "_law_other_row" = some (.ref f__law_other_row)) (F__law_renamed : FnP K "_law_renamed" s__law_renamed f__law_renamed fd__law_renamed) (G__law_renamed : mg "_law_renamed" = some (.ref f__law_renamed)) (F__law_asked_by : FnP K "_law_asked_by" s__law_asked_by f__law_asked_by fd__law_asked_by) (G__law_asked_by : mg "_law_asked_by" = some (.ref f__law_asked_by)) (F__law_goals : FnP K "_law_goals" s__law_goals f__law_goals fd__law_goals) (G__law_goals : mg "_law_goals" = some (.ref f__law_goals)) (F__law_met : FnP K "_law_met" s__law_met f__law_met fd__law_met) (G__law_met : mg "_law_met" = some (.ref f__law_met)) (F__law_lives : FnP K "_law_lives" s__law_lives f__law_lives fd__law_lives) (G__law_lives : mg "_law_lives" = some (.ref f__law_lives)) (F__law_params : FnP K "_law_params" s__law_params f__law_params fd__law_params) (G__law_params : mg "_law_params" = some (.ref f__law_params)) (F__law_given : FnP K "_law_given" s__law_given f__law_given fd__law_given) (G__law_given : mg "_law_given" = some (.ref f__law_given)) (F__law_changed : FnP K "_law_changed" s__law_changed f__law_changed fd__law_changed) (G__law_changed : mg "_law_changed" = some (.ref f__law_changed)) (F_law : FnP K "law" s_law f_law fd_law) (G_law : mg "law" = some (.ref f_law)) (n_sorted : mg "sorted" = none) (n_set : mg "set" = none) (n_list : mg "list" = none) (n_dict : mg "dict" = none) (n_reversed : mg "reversed" = none) (n_range : mg "range" = none) (n_len : mg "len" = none) (n_abs : mg "abs" = none) (n_enumerate : mg "enumerate" = none) (n_tuple : mg "tuple" = none) (n_zip : mg "zip" = none) (n_min : mg "min" = none) (n_int : mg "int" = none) (n_isinstance : mg "isinstance" = none) (n_all : mg "all" = none) : ∀ k : Nat, FnOk P w K mg base CX0 k f_ends_leads fd_ends_leads ["end"] (spD K 1 (runs k 0)) ∧ FnOk P w K mg base CX0 k f_leads fd_leads ["function"] (spD K 1 (runs k 1)) ∧ FnOk P w K mg base CX0 k f_ends_args fd_ends_args ["end"] (spD K 1 (runs k 2)) ∧ FnOk P w K mg base CX0 k f_params_in fd_params_in ["block"] (spD K 1 (runs k 3)) ∧ FnOk P w K mg base CX0 k f_noted fd_noted ["names"] (spD K 1 (runs k 4)) ∧ FnOk P w K mg base CX0 k f_living_behind fd_living_behind ["blocks", "goals", "found"] (spD K 3 (runs k 5)) ∧ FnOk P w K mg base CX0 k f_living_ahead fd_living_ahead ["block", "behind"] (spD K 2 (runs k 6)) ∧ FnOk P w K mg base CX0 k f_living_dicts fd_living_dicts ["function"] (spD K 1 (runs k 7)) ∧ FnOk P w K mg base CX0 k f_living fd_living ["function"] (spD K 1 (runs k 8)) ∧ FnOk P w K mg base CX0 k f__law_pot fd__law_pot ["_law_cells"] (spD K 1 (runs k 9)) ∧ FnOk P w K mg base CX0 k f__law_mix fd__law_mix ["_law_number", "_law_turn"] (spD K 2 (runs k 10)) ∧ FnOk P w K mg base CX0 k f__law_take fd__law_take ["_law_pot_here", "_law_many"] (spD K 2 (runs k 11)) ∧ FnOk P w K mg base CX0 k f__law_ops fd__law_ops ["_law_state"] (spD K 1 (runs k 12)) ∧ FnOk P w K mg base CX0 k f__law_put fd__law_put ["_law_state", "_law_kind", "_law_op", "_law_args", "_law_more"] (spD K 5 (runs k 13)) ∧ FnOk P w K mg base CX0 k f__law_name fd__law_name ["_law_state", "_law_pot_here", "_law_kind"] (spD K 3 (runs k 14)) ∧ FnOk P w K mg base CX0 k f__law_straight fd__law_straight ["_law_state", "_law_pot_here"] (spD K 2 (runs k 15)) ∧ FnOk P w K mg base CX0 k f__law_open fd__law_open ["_law_state"] (spD K 1 (runs k 16)) ∧ FnOk P w K mg base CX0 k f__law_begin fd__law_begin ["_law_state", "_law_at", "_law_kinds"] (spD K 3 (runs k 17)) ∧ FnOk P w K mg base CX0 k f__law_end fd__law_end ["_law_state", "_law_end_here"] (spD K 2 (runs k 18)) ∧ FnOk P w K mg base CX0 k f__law_choice fd__law_choice ["_law_state", "_law_pot_here", "_law_deep"] (spD K 3 (runs k 19)) ∧ FnOk P w K mg base CX0 k f__law_loop fd__law_loop ["_law_state", "_law_pot_here", "_law_deep"] (spD K 3 (runs k 20)) ∧ FnOk P w K mg base CX0 k f__law_body fd__law_body ["_law_state", "_law_pot_here", "_law_deep"] (spD K 3 (runs k 21)) ∧ FnOk P w K mg base CX0 k f__law_function fd__law_function ["_law_pot_here", "_law_head", "_law_calls", "_law_budget", "_law_fields"] (spD K 5 (runs k 22)) ∧ FnOk P w K mg base CX0 k f__law_middle fd__law_middle ["_law_pot_here"] (spD K 1 (runs k 23)) ∧ FnOk P w K mg base CX0 k f__law_other fd__law_other ["_law_x", "_law_way"] (spD K 2 (runs k 24)) ∧ FnOk P w K mg base CX0 k f__law_other_end fd__law_other_end ["_law_end_here", "_law_way"] (spD K 2 (runs k 25)) ∧ FnOk P w K mg base CX0 k f__law_other_row fd__law_other_row ["_law_row", "_law_way"] (spD K 2 (runs k 26)) ∧ FnOk P w K mg base CX0 k f__law_renamed fd__law_renamed ["_law_middle_here", "_law_way"] (spD K 2 (runs k 27)) ∧ FnOk P w K mg base CX0 k f__law_asked_by fd__law_asked_by ["_law_end_here"] (spD K 1 (runs k 28)) ∧ FnOk P w K mg base CX0 k f__law_goals fd__law_goals ["_law_end_here"] (spD K 1 (runs k 29)) ∧ FnOk P w K mg base CX0 k f__law_met fd__law_met ["_law_block", "_law_x"] (spD K 2 (runs k 30)) ∧ FnOk P w K mg base CX0 k f__law_lives fd__law_lives ["_law_blocks", "_law_at", "_law_x"] (spD K 3 (runs k 31)) ∧ FnOk P w K mg base CX0 k f__law_params fd__law_params ["_law_block"] (spD K 1 (runs k 32)) ∧ FnOk P w K mg base CX0 k f__law_given fd__law_given ["_law_blocks"] (spD K 1 (runs k 33)) ∧ FnOk P w K mg base CX0 k f__law_changed fd__law_changed ["_law_found"] (spD K 1 (runs k 34)) ∧ FnOk P w K mg base CX0 k f_law fd_law ["_law_script"] (spD K 1 (runs k 35))
  | 0 => ⟨ok_zero, ok_zero, ok_zero, ok_zero, ok_zero, ok_zero, ok_zero, ok_zero, ok_zero, ok_zero, ok_zero, ok_zero, ok_zero, ok_zero, ok_zero, ok_zero, ok_zero, ok_zero, ok_zero, ok_zero, ok_zero, ok_zero, ok_zero, ok_zero, ok_zero, ok_zero, ok_zero, ok_zero, ok_zero, ok_zero, ok_zero, ok_zero, ok_zero, ok_zero, ok_zero, ok_zero⟩
  | k + 1 => by
    obtain ⟨O_ends_leads, O_leads, O_ends_args, O_params_in, O_noted, O_living_behind, O_living_ahead, O_living_dicts, O_living, O__law_pot, O__law_mix, O__law_take, O__law_ops, O__law_put, O__law_name, O__law_straight, O__law_open, O__law_begin, O__law_end, O__law_choice, O__law_loop, O__law_body, O__law_function, O__law_middle, O__law_other, O__law_other_end, O__law_other_row, O__law_renamed, O__law_asked_by, O__law_goals, O__law_met, O__law_lives, O__law_params, O__law_given, O__law_changed, O_law⟩ := ok_all F_ends_leads G_ends_leads F_leads G_leads F_ends_args G_ends_args F_params_in G_params_in F_noted G_noted F_living_behind G_living_behind F_living_ahead G_living_ahead F_living_dicts G_living_dicts F_living G_living F__law_pot G__law_pot F__law_mix G__law_mix F__law_take G__law_take F__law_ops G__law_ops F__law_put G__law_put F__law_name G__law_name F__law_straight G__law_straight F__law_open G__law_open F__law_begin G__law_begin F__law_end G__law_end F__law_choice G__law_choice F__law_loop G__law_loop F__law_body G__law_body F__law_function G__law_function F__law_middle G__law_middle F__law_other G__law_other F__law_other_end G__law_other_end F__law_other_row G__law_other_row F__law_renamed G__law_renamed F__law_asked_by G__law_asked_by F__law_goals G__law_goals F__law_met G__law_met F__law_lives G__law_lives F__law_params G__law_params F__law_given G__law_given F__law_changed G__law_changed F_law G_law n_sorted n_set n_list n_dict n_reversed n_range n_len n_abs n_enumerate n_tuple n_zip n_min n_int n_isinstance n_all k
    exact ⟨ok_ends_leads F_ends_leads n_sorted n_set, ok_leads F_leads F_ends_leads G_ends_leads O_ends_leads, ok_ends_args F_ends_args n_list, ok_params_in F_params_in, ok_noted F_noted, ok_living_behind F_living_behind F_params_in G_params_in O_params_in F_noted G_noted O_noted, ok_living_ahead F_living_ahead F_noted G_noted O_noted F_ends_args G_ends_args O_ends_args n_dict n_reversed, ok_living_dicts F_living_dicts F_leads G_leads O_leads F_living_ahead G_living_ahead O_living_ahead F_living_behind G_living_behind O_living_behind n_reversed n_range n_len, ok_living F_living F_living_dicts G_living_dicts O_living_dicts n_sorted, ok__law_pot F__law_pot n_len n_list, ok__law_mix F__law_mix, ok__law_take F__law_take F__law_mix G__law_mix O__law_mix n_len n_abs, ok__law_ops F__law_ops n_enumerate, ok__law_put F__law_put n_tuple, ok__law_name F__law_name G__law_name F__law_take G__law_take O__law_take F__law_put G__law_put O__law_put O__law_name n_len n_range, ok__law_straight F__law_straight F__law_ops G__law_ops O__law_ops F__law_take G__law_take O__law_take F__law_put G__law_put O__law_put F__law_name G__law_name O__law_name n_range n_len, ok__law_open F__law_open n_len, ok__law_begin F__law_begin n_list n_range n_len n_zip, ok__law_end F__law_end n_tuple, ok__law_choice F__law_choice F__law_name G__law_name O__law_name F__law_open G__law_open O__law_open F__law_end G__law_end O__law_end F__law_begin G__law_begin O__law_begin F__law_body G__law_body O__law_body F__law_take G__law_take O__law_take n_list, ok__law_loop F__law_loop F__law_take G__law_take O__law_take F__law_name G__law_name O__law_name F__law_open G__law_open O__law_open F__law_end G__law_end O__law_end F__law_begin G__law_begin O__law_begin F__law_put G__law_put O__law_put F__law_body G__law_body O__law_body n_range n_tuple n_list, ok__law_body F__law_body F__law_take G__law_take O__law_take F__law_straight G__law_straight O__law_straight F__law_choice G__law_choice O__law_choice F__law_loop G__law_loop O__law_loop n_range, ok__law_function F__law_function F__law_begin G__law_begin O__law_begin F__law_open G__law_open O__law_open F__law_put G__law_put O__law_put F__law_body G__law_body O__law_body F__law_end G__law_end O__law_end F__law_name G__law_name O__law_name n_tuple, ok__law_middle F__law_middle F__law_take G__law_take O__law_take F__law_function G__law_function O__law_function n_min n_len n_tuple n_range n_enumerate, ok__law_other F__law_other, ok__law_other_end F__law_other_end F__law_other G__law_other O__law_other n_tuple, ok__law_other_row F__law_other_row F__law_other G__law_other O__law_other n_tuple, ok__law_renamed F__law_renamed F__law_other G__law_other O__law_other F__law_other_row G__law_other_row O__law_other_row F__law_other_end G__law_other_end O__law_other_end n_tuple, ok__law_asked_by F__law_asked_by, ok__law_goals F__law_goals, ok__law_met F__law_met F__law_asked_by G__law_asked_by O__law_asked_by n_int, ok__law_lives F__law_lives F__law_met G__law_met O__law_met F__law_goals G__law_goals O__law_goals F__law_params G__law_params O__law_params, ok__law_params F__law_params, ok__law_given F__law_given F__law_params G__law_params O__law_params, ok__law_changed F__law_changed, ok_law F_law F__law_pot G__law_pot O__law_pot F__law_take G__law_take O__law_take F__law_renamed G__law_renamed O__law_renamed F__law_middle G__law_middle O__law_middle F__law_given G__law_given O__law_given F__law_lives G__law_lives O__law_lives F_living G_living O_living F__law_changed G__law_changed O__law_changed n_sorted n_range n_len n_isinstance n_list n_all⟩
end
end Hd
/-! Reasoning about the functions over values. -/
namespace Mw
open PySem PySem.Spec PyProof.Rows L2 Dn
def Ok {τ : Type} (o : Option (τ × Sto)) (Q : τ → Sto → Prop) : Prop := ∃ d s, o = some (d, s) ∧ Q d s
def OkS (o : Option Res) (Q : Res → Prop) : Prop := ∃ r, o = some r ∧ Q r
section
variable {τ υ : Type} {o : Option (τ × Sto)} {d : τ} {s : Sto} {Q R : τ → Sto → Prop} {P : υ → Sto → Prop} {f : τ × Sto → Option (υ × Sto)}
theorem ok_some : Ok (some (d, s)) Q ↔ Q d s := ⟨fun ⟨_, _, e, q⟩ => (by cases e; exact q), fun q => ⟨_, _, rfl, q⟩⟩
theorem ok_none : Ok (none : Option (τ × Sto)) Q ↔ False := ⟨fun ⟨_, _, e, q⟩ => (by cases e), fun h => h.elim⟩
theorem ok_bind : Ok (o.bind f) P ↔ Ok o fun d s => Ok (f (d, s)) P := by
  constructor
  · rintro ⟨d, s, e, q⟩
    obtain ⟨⟨a, b⟩, h1, h2⟩ := bindS e
    exact ⟨a, b, h1, d, s, h2, q⟩
  · rintro ⟨a, b, h1, d, s, h2, q⟩
    exact ⟨d, s, by rw [h1]; exact h2, q⟩
theorem ok_map {g : τ × Sto → υ × Sto} : Ok (o.map g) P ↔ Ok o fun d s => P (g (d, s)).1 (g (d, s)).2 := by
  constructor
  · rintro ⟨d, s, e, q⟩
    obtain ⟨⟨a, b⟩, h1, h2⟩ := mapS e
    exact ⟨a, b, h1, (by show P (g (a, b)).1 (g (a, b)).2; rw [h2]; exact q)⟩
  · rintro ⟨a, b, h1, q⟩
    exact ⟨_, _, (by rw [h1]; rfl), q⟩
theorem ok_mapv {p : Option τ} {g : τ → υ × Sto} : Ok (p.map g) P ↔ ∃ a, p = some a ∧ P (g a).1 (g a).2 := by
  constructor
  · rintro ⟨d, s, e, q⟩
    obtain ⟨a, h1, h2⟩ := mapS e
    exact ⟨a, h1, by rw [h2]; exact q⟩
  · rintro ⟨a, h1, q⟩
    exact ⟨_, _, by rw [h1]; rfl, q⟩
theorem ok_ite {c : Prop} [Decidable c] : Ok (if c then o else none) Q ↔ c ∧ Ok o Q := by
  by_cases h : c
  · rw [if_pos h]; simp [h]
  · rw [if_neg h]; simp [h, ok_none]
theorem Ok.imp (h : Ok o Q) (k : ∀ d s, Q d s → R d s) : Ok o R := let ⟨d, s, e, q⟩ := h; ⟨d, s, e, k d s q⟩
end
section
variable {r : Res} {Q R : Res → Prop} {o : Option Res}
theorem oks_some : OkS (some r) Q ↔ Q r := ⟨fun ⟨_, e, q⟩ => (by cases e; exact q), fun q => ⟨_, rfl, q⟩⟩
theorem oks_none : OkS none Q ↔ False := ⟨fun ⟨_, e, q⟩ => (by cases e), fun h => h.elim⟩
theorem oks_bind {τ : Type} {o : Option (τ × Sto)} {f : τ × Sto → Option Res} : OkS (o.bind f) Q ↔ Ok o fun d s => OkS (f (d, s)) Q := by
  constructor
  · rintro ⟨r, e, q⟩
    obtain ⟨⟨a, b⟩, h1, h2⟩ := bindS e
    exact ⟨a, b, h1, r, h2, q⟩
  · rintro ⟨a, b, h1, r, h2, q⟩
    exact ⟨r, by rw [h1]; exact h2, q⟩
theorem oks_bindv {τ : Type} {o : Option τ} {f : τ → Option Res} : OkS (o.bind f) Q ↔ ∃ a, o = some a ∧ OkS (f a) Q := by
  constructor
  · rintro ⟨r, e, q⟩
    obtain ⟨a, h1, h2⟩ := bindS e
    exact ⟨a, h1, r, h2, q⟩
  · rintro ⟨a, h1, r, h2, q⟩
    exact ⟨r, by rw [h1]; exact h2, q⟩
theorem oks_map {τ : Type} {o : Option (τ × Sto)} {g : τ × Sto → Res} : OkS (o.map g) Q ↔ Ok o fun d s => Q (g (d, s)) := by
  constructor
  · rintro ⟨r, e, q⟩
    obtain ⟨⟨a, b⟩, h1, h2⟩ := mapS e
    exact ⟨a, b, h1, (by show Q (g (a, b)); rw [h2]; exact q)⟩
  · rintro ⟨a, b, h1, q⟩
    exact ⟨_, (by rw [h1]; rfl), q⟩
theorem oks_ite {c : Prop} [Decidable c] : OkS (if c then o else none) Q ↔ c ∧ OkS o Q := by
  by_cases h : c
  · rw [if_pos h]; simp [h]
  · rw [if_neg h]; simp [h, oks_none]
theorem oks_if {c : Prop} [Decidable c] {o' : Option Res} : OkS (if c then o else o') Q ↔ (c → OkS o Q) ∧ (¬ c → OkS o' Q) := by
  by_cases h : c <;> simp [h]
theorem OkS.imp (h : OkS o Q) (k : ∀ r, Q r → R r) : OkS o R := let ⟨r, e, q⟩ := h; ⟨r, e, k r q⟩
/-- one statement, then the rest -/
theorem oks_seq {a b : SM} {env : Dn.Env} {st : Sto} : OkS (seqS a b env st) Q ↔ OkS (a env st) fun r => match r with
    | .nx e s => OkS (b e s) Q
    | r => Q r := by
  unfold seqS
  constructor
  · rintro ⟨r, e, q⟩
    cases ha : a env st with
    | none => rw [ha] at e; cases e
    | some x =>
      rw [ha] at e
      refine ⟨x, rfl, ?_⟩
      cases x with
      | nx e' s => exact ⟨r, e, q⟩
      | _ => cases e; exact q
  · rintro ⟨x, e, q⟩
    rw [e]
    cases x with
    | nx e' s => exact q
    | _ => exact ⟨_, rfl, q⟩
theorem oks_seq' {a b : SM} {env : Dn.Env} {st : Sto} (h : OkS (a env st) fun r => match r with
    | .nx e s => OkS (b e s) Q
    | r => Q r) : OkS (seqS a b env st) Q := oks_seq.mpr h
end
/-- a def's body -/
theorem ok_body {m : Nat} {f : SM} {args : List D} {st : Sto} {Q : D → Sto → Prop} (h : OkS (f (args.map some ++ List.replicate (m - args.length) none) st) fun r => match r with
    | .rt d s => Q d s
    | .nx _ s => Q .non s
    | _ => False) : Ok (bodyD m f args st) Q := by
  obtain ⟨r, e, q⟩ := h
  unfold bodyD
  rw [e]
  cases r with
  | rt d s => exact ⟨d, s, rfl, q⟩
  | nx e s => exact ⟨_, s, rfl, q⟩
  | _ => exact False.elim q
/-! ### the store -/
theorem get_set {s : Sto} {i j : Nat} {o : O} (h : i < s.size) : (s.set i o).get j = if j = i then some o else s.get j := by
  by_cases e : j = i
  · subst e; rw [if_pos rfl]; exact Sto.get_set_same h
  · rw [if_neg e]; exact Sto.get_set_ne e
theorem get_push {s : Sto} {j : Nat} {o : O} : (s.push o).get j = if j = s.size then some o else s.get j := by
  by_cases e : j = s.size
  · subst e; rw [if_pos rfl]; exact Sto.get_push_new
  · rw [if_neg e]
    rcases Nat.lt_or_ge j s.size with h | h
    · exact Sto.get_push_lt h
    · rw [Sto.get_ge h, Sto.get_ge (by rw [Sto.size_push]; omega)]
/-- nothing is changed but what is told -/
structure Fm (W : List Nat) (s s' : Sto) : Prop where
  le : s.size ≤ s'.size
  get : ∀ i, i < s.size → i ∉ W → s'.get i = s.get i
theorem Fm.refl {W : List Nat} {s : Sto} : Fm W s s := ⟨Nat.le_refl _, fun _ _ _ => rfl⟩
theorem Fm.trans {W V : List Nat} {s s1 s2 : Sto} (a : Fm W s s1) (b : Fm V s1 s2) (h : ∀ i ∈ V, i ∈ W ∨ s.size ≤ i) : Fm W s s2 :=
  ⟨Nat.le_trans a.le b.le, fun i hi hw => by
    rw [b.get i (Nat.lt_of_lt_of_le hi a.le) fun hv => ?_, a.get i hi hw]
    rcases h i hv with q | q
    · exact hw q
    · omega⟩
theorem Fm.set {W : List Nat} {s : Sto} {i : Nat} {o : O} (h : i ∈ W ∨ s.size ≤ i) : Fm W s (s.set i o) := ⟨by rw [Sto.size_set]; exact Nat.le_refl _, fun j hj hw => by
  refine Sto.get_set_ne ?_
  rintro rfl
  rcases h with h | h
  · exact hw h
  · omega⟩
theorem Fm.push {W : List Nat} {s : Sto} {o : O} : Fm W s (s.push o) := ⟨by rw [Sto.size_push]; omega, fun j hj _ => Sto.get_push_lt hj⟩
theorem Fm.keep {W : List Nat} {s s' : Sto} (f : Fm W s s') {i : Nat} {o : O} (h : s.get i = some o) (hw : i ∉ W) : s'.get i = some o := by rw [f.get i (Sto.get_lt h) hw]; exact h
/-! ### ints -/
theorem eq_int {neg : Bool} {i j : Int} {s : Sto} : eqD neg (.int i) (.int j) s = some (.bl (if neg then !decide (i = j) else decide (i = j)), s) := by
  have e : PyData.eqv (.int i) (.int j) = decide (i = j) := by simp only [PyData.eqv]; rfl
  unfold eqD
  simp only [py, Option.bind_some, e]
  rw [if_pos ⟨rfl, rfl⟩]
def potD (Cl : Nat) (a l m : Int) (mx : Bool) : List (Key × D) := [(.inr "cells", .ref Cl), (.inr "at", .int a), (.inr "left", .int l), (.inr "many", .int m), (.inr "mixed", .bl mx)]
section
variable {Cl : Nat} {a l m v : Int} {mx : Bool}
theorem potD_cells : kGet (potD Cl a l m mx) (.inr "cells") = some (.ref Cl) := by rfl
theorem potD_at : kGet (potD Cl a l m mx) (.inr "at") = some (.int a) := by rfl
theorem potD_left : kGet (potD Cl a l m mx) (.inr "left") = some (.int l) := by rfl
theorem potD_many : kGet (potD Cl a l m mx) (.inr "many") = some (.int m) := by rfl
theorem potD_mixed : kGet (potD Cl a l m mx) (.inr "mixed") = some (.bl mx) := by rfl
theorem potD_sat : kPut (potD Cl a l m mx) (.inr "at") (.int v) = potD Cl v l m mx := by rfl
theorem potD_sleft : kPut (potD Cl a l m mx) (.inr "left") (.int v) = potD Cl a v m mx := by rfl
theorem potD_len : (potD Cl a l m mx).length < SZ := by show 5 < SZ; decide
theorem potD_smany : kPut (potD Cl a l m mx) (.inr "many") (.int v) = potD Cl a l v mx := by rfl
end
/-! ### one step, at what is known -/
section
variable {α : Type} {a b c d e f : α} {r : List α}
theorem at_lit0 : atI (a :: r) 0 = some a := by simp [atI, ixN]
theorem at_lit1 : atI (a :: b :: r) 1 = some b := by simp [atI, ixN]; rw [if_pos (by omega)]; rfl
theorem at_lit2 : atI (a :: b :: c :: r) 2 = some c := by simp [atI, ixN]; rw [if_pos (by omega)]; rfl
theorem at_lit3 : atI (a :: b :: c :: d :: r) 3 = some d := by simp [atI, ixN]; rw [if_pos (by omega)]; rfl
theorem at_lit4 : atI (a :: b :: c :: d :: e :: r) 4 = some e := by simp [atI, ixN]; rw [if_pos (by omega)]; rfl
theorem at_lit5 : atI (a :: b :: c :: d :: e :: f :: r) 5 = some f := by simp [atI, ixN]; rw [if_pos (by omega)]; rfl
end
section
variable {i j : Int} {s : Sto} {n m : Nat} {k : Str} {xs ys : List D} {x y d : D} {kvs : List (Key × D)} {b : Bool}
theorem add_ii : addD (.int i) (.int j) s = some (.int (i + j), s) := rfl
theorem add_tt : addD (.tup xs) (.tup ys) s = if xs.length + ys.length ≤ SZ then some (.tup (xs ++ ys), s) else none := rfl
theorem add_rr : addD (.ref n) (.ref m) s = (match s.get n, s.get m with
    | some (.lst xs), some (.lst ys) => if xs.length + ys.length ≤ SZ then some (.ref s.size, s.push (.lst (xs ++ ys))) else none
    | _, _ => none) := rfl
theorem sub_ii : subD (.int i) (.int j) s = some (.int (i - j), s) := rfl
theorem mul_ii : mulD (.int i) (.int j) s = if CMul i j then some (.int (i * j), s) else none := rfl
theorem mul_ti : mulD (.tup xs) (.int j) s = if xs ≠ [] ∧ -1000 ≤ j ∧ j ≤ 1000 ∧ xs.length ≤ 1000 then some (.tup (List.replicate j.toNat xs).flatten, s) else none := rfl
theorem mul_ri : mulD (.ref n) (.int j) s = (match s.get n with
    | some (.lst xs) => if -(2 ^ 63) ≤ j ∧ j < 2 ^ 63 ∧ xs.length * j.toNat ≤ SZ then some (.ref s.size, s.push (.lst (List.replicate j.toNat xs).flatten)) else none
    | _ => none) := rfl
theorem mod_ii : modD (.int i) (.int j) s = if j ≠ 0 then some (.int (i.fmod j), s) else none := rfl
theorem fdiv_ii : fdivD (.int i) (.int j) s = if CDivN i j then some (.int (i.fdiv j), s) else none := rfl
theorem pow_ii : powD (.int i) (.int j) s = if CPow i j then some (.int (i ^ j.toNat), s) else none := rfl
theorem lt_ii {r : Int → Int → Bool} : ltD r (.int i) (.int j) s = some (.bl (r i j), s) := rfl
theorem get_ti : getD (.tup xs) (.int i) s = (atI xs i).map fun d => (d, s) := rfl
theorem get_ri : getD (.ref n) (.int i) s = (match s.get n with
    | some (.lst xs) => (atI xs i).map fun d => (d, s)
    | some (.frl xs) => (atI xs i).map fun d => (d, s)
    | some (.dic kvs) => (kGet kvs (.inl i)).map fun d => (d, s)
    | some (.frd kvs) => (kGet kvs (.inl i)).map fun d => (d, s)
    | _ => none) := rfl
theorem get_rs : getD (.ref n) (.str k) s = (match s.get n with
    | some (.dic kvs) => (kGet kvs (.inr k)).map fun d => (d, s)
    | some (.frd kvs) => (kGet kvs (.inr k)).map fun d => (d, s)
    | _ => none) := rfl
theorem len_t : lenD (.tup xs) s = some (.int xs.length, s) := rfl
theorem len_r : lenD (.ref n) s = (match s.get n with
    | some (.lst xs) => some (.int xs.length, s)
    | some (.frl xs) => some (.int xs.length, s)
    | some (.dic xs) => some (.int xs.length, s)
    | some (.frd xs) => some (.int xs.length, s)
    | _ => none) := rfl
theorem abs_i : absD (.int i) s = some (.int (if i < 0 then -i else i), s) := rfl
theorem int_b : intD (.bl b) s = some (.int (if b then 1 else 0), s) := rfl
theorem list_t : listD (.tup xs) s = some (.ref s.size, s.push (.lst xs)) := rfl
theorem list_r : listD (.ref n) s = (match s.get n with
    | some (.lst xs) => some (.ref s.size, s.push (.lst xs))
    | some (.frl xs) => some (.ref s.size, s.push (.lst xs))
    | some (.dic kvs) => some (.ref s.size, s.push (.lst (kvs.map fun kv => kD kv.1)))
    | _ => none) := rfl
theorem tuple_t : tupleD (.tup xs) s = some (.tup xs, s) := rfl
theorem tuple_r : tupleD (.ref n) s = (match s.seq n with
    | some xs => some (.tup xs, s)
    | none => none) := rfl
theorem dict_r : dictD (.ref n) s = (match s.map n with
    | some kvs => some (.ref s.size, s.push (.dic kvs))
    | none => none) := rfl
theorem is_n {neg : Bool} : isND neg x .non s = some (.bl (if neg then !isNonD x else isNonD x), s) := rfl
theorem in_t {neg : Bool} : inD neg x (.tup xs) s = if flatD x = true ∧ xs.all flatD = true then some (.bl (if neg then !inSeq x xs else inSeq x xs), s) else none := rfl
theorem in_r {neg : Bool} : inD neg x (.ref n) s = (match s.get n with
    | some (.lst xs) => if flatD x = true ∧ xs.all flatD = true then some (.bl (if neg then !inSeq x xs else inSeq x xs), s) else none
    | some (.frl xs) => if flatD x = true ∧ xs.all flatD = true then some (.bl (if neg then !inSeq x xs else inSeq x xs), s) else none
    | some (.dic kvs) => x.key.map fun k => (.bl (if neg then !(kGet kvs k).isSome else (kGet kvs k).isSome), s)
    | some (.frd kvs) => x.key.map fun k => (.bl (if neg then !(kGet kvs k).isSome else (kGet kvs k).isSome), s)
    | _ => none) := rfl
theorem addI_ii : addI (.int i) (.int j) s = some (.int (i + j), s) := rfl
theorem subI_ii : subI (.int i) (.int j) s = some (.int (i - j), s) := rfl
theorem min_ii : minD (.int i) (.int j) s = some (.int (if j < i then j else i), s) := rfl
theorem seq_get (h : s.get n = some (.lst xs)) : s.seq n = some xs := by unfold Sto.seq; rw [h]; rfl
theorem append_r : appendD (.ref n) [y] s = (match s.get n with
    | some (.lst xs) => if xs.length < SZ then some (.non, s.set n (.lst (xs ++ [y]))) else none
    | _ => none) := rfl
theorem key_i : (D.int i).key = some (.inl i) := rfl
theorem key_s : (D.str k).key = some (.inr k) := rfl
end
section
variable {f g fo fi fv : M D} {fs : M (List D)} {env : Dn.Env} {st : Sto} {Q : D → Sto → Prop} {R : Res → Prop}
theorem ok_op {op : D → D → Sto → Option (D × Sto)} : Ok (opF op f g env st) Q ↔ Ok (f env st) fun a s => Ok (g env s) fun b s => Ok (op a b s) Q := by unfold opF; rw [ok_bind]; simp only [ok_bind]
theorem ok_un {op : D → Sto → Option (D × Sto)} : Ok (unF op f env st) Q ↔ Ok (f env st) fun a s => Ok (op a s) Q := by unfold unF; rw [ok_bind]
theorem ok_c {d : D} : Ok (cF d env st) Q ↔ Q d st := ok_some
theorem ok_nil {Q : List D → Sto → Prop} : Ok (nilF env st) Q ↔ Q [] st := ok_some
theorem ok_cons {Q : List D → Sto → Prop} : Ok (consF f fs env st) Q ↔ Ok (f env st) fun a s => Ok (fs env s) fun b s => Q (a :: b) s := by unfold consF; rw [ok_bind]; simp only [ok_bind, ok_some]
theorem ok_tup : Ok (tupF fs env st) Q ↔ Ok (fs env st) fun a s => a.length ≤ SZ ∧ Q (.tup a) s := by unfold tupF; rw [ok_bind]; simp only [ok_ite, ok_some]
theorem ok_lst : Ok (lstF fs env st) Q ↔ Ok (fs env st) fun a s => a.length ≤ SZ ∧ Q (.ref s.size) (s.push (.lst a)) := by unfold lstF; rw [ok_bind]; simp only [ok_ite, ok_some]
theorem ok_var0 {d : D} {e : Dn.Env} : Ok (varF 0 (some d :: e) st) Q ↔ Q d st := ok_some
theorem ok_varS {i : Nat} {d : Option D} {e : Dn.Env} : Ok (varF (i + 1) (d :: e) st) Q ↔ Ok (varF i e st) Q := Iff.rfl
theorem ok_call {n : Nat} {run : FnD} : Ok (callF n run fs env st) Q ↔ Ok (fs env st) fun a s => a.length = n ∧ Ok (run a s) Q := by unfold callF; rw [ok_bind]; simp only [ok_ite]
theorem ok_tst {Q : Bool → Sto → Prop} : Ok (tstF f env st) Q ↔ Ok (f env st) fun d s => ∃ b, d = .bl b ∧ Q b s := by
  unfold tstF
  rw [ok_bind]
  constructor
  · rintro ⟨d, s, e, q⟩
    refine ⟨d, s, e, ?_⟩
    cases d with
    | bl b => exact ⟨b, rfl, ok_some.mp q⟩
    | _ => exact (ok_none.mp q).elim
  · rintro ⟨d, s, e, b, rfl, q⟩
    exact ⟨_, s, e, ok_some.mpr q⟩
theorem ok_and {f g : M Bool} {Q : Bool → Sto → Prop} : Ok (andF f g env st) Q ↔ Ok (f env st) fun b s => (b = true → Ok (g env s) Q) ∧ (b = false → Q false s) := by
  unfold andF
  rw [ok_bind]
  constructor
  · rintro ⟨d, s, e, q⟩
    refine ⟨d, s, e, ?_⟩
    cases d with
    | true => exact ⟨(fun _ => by simpa using q), fun h => (by cases h)⟩
    | false => exact ⟨(fun h => by cases h), fun _ => by simpa [ok_some] using q⟩
  · rintro ⟨d, s, e, q1, q2⟩
    refine ⟨d, s, e, ?_⟩
    cases d with
    | true => simpa using q1 rfl
    | false => simpa [ok_some] using q2 rfl
theorem ok_or {f g : M Bool} {Q : Bool → Sto → Prop} : Ok (orF f g env st) Q ↔ Ok (f env st) fun b s => (b = true → Q true s) ∧ (b = false → Ok (g env s) Q) := by
  unfold orF
  rw [ok_bind]
  constructor
  · rintro ⟨d, s, e, q⟩
    refine ⟨d, s, e, ?_⟩
    cases d with
    | true => exact ⟨(fun _ => by simpa [ok_some] using q), fun h => (by cases h)⟩
    | false => exact ⟨(fun h => by cases h), fun _ => by simpa using q⟩
  · rintro ⟨d, s, e, q1, q2⟩
    refine ⟨d, s, e, ?_⟩
    cases d with
    | true => simpa [ok_some] using q1 rfl
    | false => simpa using q2 rfl
theorem ok_not {f : M Bool} {Q : Bool → Sto → Prop} : Ok (notF f env st) Q ↔ Ok (f env st) fun b s => Q (!b) s := by unfold notF; rw [ok_bind]; simp only [ok_some]
theorem ok_meth {kk} {op : D → List D → Sto → Option (D × Sto)} : Ok (methF kk op fo fs env st) Q ↔ Ok (fo env st) fun a s => kk s a = true ∧ Ok (fs env s) fun bs s => Ok (op a bs s) Q := by
  unfold methF
  rw [ok_bind]
  simp only [ok_ite, ok_bind]
theorem oks_set {i : Nat} : OkS (setS i f env st) R ↔ Ok (f env st) fun d s => R (.nx (env.set i (some d)) s) := by unfold setS; rw [oks_map]
theorem oks_ret : OkS (retS f env st) R ↔ Ok (f env st) fun d s => R (.rt d s) := by unfold retS; rw [oks_map]
theorem oks_expr : OkS (exprS f env st) R ↔ Ok (f env st) fun d s => R (.nx env s) := by unfold exprS; rw [oks_map]
theorem oks_next : OkS (nextS env st) R ↔ R (.nx env st) := oks_some
theorem oks_cnt : OkS (cntS env st) R ↔ R (.ct env st) := oks_some
theorem oks_if' {t : M Bool} {a b : SM} : OkS (ifS t a b env st) R ↔ Ok (t env st) fun c s => (c = true → OkS (a env s) R) ∧ (c = false → OkS (b env s) R) := by
  unfold ifS
  rw [oks_bind]
  constructor
  · rintro ⟨c, s, e, q⟩
    refine ⟨c, s, e, ?_⟩
    cases c <;> simpa using q
  · rintro ⟨c, s, e, q⟩
    refine ⟨c, s, e, ?_⟩
    cases c <;> simpa using q
theorem oks_asg {g : GM} : OkS (asgS f g env st) R ↔ Ok (f env st) fun d s => ∃ e s', g d env s = some (e, s') ∧ R (.nx e s') := by
  unfold asgS
  rw [oks_bind]
  constructor
  · rintro ⟨c, s, e, r, h, q⟩
    obtain ⟨⟨e1, s1⟩, h1, h2⟩ := mapS h
    exact ⟨c, s, e, e1, s1, h1, by rw [h2]; exact q⟩
  · rintro ⟨c, s, e, e1, s1, h1, q⟩
    exact ⟨c, s, e, _, (by simp only [h1]; rfl), q⟩
/-- d[k] = v on a dict -/
theorem sub_d {v : D} {Q : Dn.Env → Sto → Prop} : (∃ e s', subG fo fi v env st = some (e, s') ∧ Q e s') ↔ Ok (fo env st) fun o s => Ok (fi env s) fun i s => ∃ s', setD o i v s = some s' ∧ Q env s' := by
  unfold subG
  constructor
  · rintro ⟨e, s', h, q⟩
    obtain ⟨⟨o, s1⟩, h1, h⟩ := bindS h
    obtain ⟨⟨i, s2⟩, h2, h⟩ := bindS h
    obtain ⟨s3, h3, h⟩ := mapS h
    cases h
    exact ⟨o, s1, h1, i, s2, h2, _, h3, q⟩
  · rintro ⟨o, s1, h1, i, s2, h2, s3, h3, q⟩
    exact ⟨env, s3, by simp only [h1, h2, Option.bind_some, h3, Option.map_some], q⟩
/-- d[k] += e on a dict -/
theorem oks_daug {op : D → D → Sto → Option (D × Sto)} {n : Nat} {kvs : List (Key × D)} {k : Key} {x : D} {s1 s2 : Sto} {kd : D} (h1 : fo env st = some (.ref n, s1)) (h2 : fi env s1 = some (kd, s2)) (h3 : s2.get n = some (.dic kvs)) (h4 : kd.key = some k) (h5 : kGet kvs k = some x)
    (h : Ok (fv env s2) fun v s => Ok (op x v s) fun y s => ∃ kvs', s.get n = some (.dic kvs') ∧ kvs'.length < SZ ∧ R (.nx env (s.set n (.dic (kPut kvs' k y))))) : OkS (daugS op fo fi fv env st) R := by
  obtain ⟨v, s3, e3, y, s4, e4, kvs', e5, e6, q⟩ := h
  refine ⟨_, ?_, q⟩
  unfold daugS
  simp only [h1, Option.bind_some, h2, h3, h4, h5, e3, e4, e5]
  rw [if_pos e6]
end
/-! ### one statement, then the rest -/
section
variable {f : M D} {a b c : SM} {env : Dn.Env} {st : Sto} {R : Res → Prop}
theorem seq_set {i : Nat} : OkS (seqS (setS i f) b env st) R ↔ Ok (f env st) fun d s => OkS (b (env.set i (some d)) s) R := by rw [oks_seq, oks_set]
theorem seq_ret : OkS (seqS (retS f) b env st) R ↔ Ok (f env st) fun d s => R (.rt d s) := by rw [oks_seq, oks_ret]
theorem seq_expr : OkS (seqS (exprS f) b env st) R ↔ Ok (f env st) fun d s => OkS (b env s) R := by rw [oks_seq, oks_expr]
theorem seq_next : OkS (seqS nextS b env st) R ↔ OkS (b env st) R := by rw [oks_seq, oks_next]
theorem seq_cnt : OkS (seqS cntS b env st) R ↔ R (.ct env st) := by rw [oks_seq, oks_cnt]
theorem seq_seq : OkS (seqS (seqS a b) c env st) R ↔ OkS (seqS a (seqS b c) env st) R := by
  rw [oks_seq, oks_seq, oks_seq]
  constructor
  · rintro ⟨r, e, q⟩
    refine ⟨r, e, ?_⟩
    cases r with
    | nx e s => exact oks_seq.mpr q
    | _ => exact q
  · rintro ⟨r, e, q⟩
    refine ⟨r, e, ?_⟩
    cases r with
    | nx e s => exact oks_seq.mp q
    | _ => exact q
theorem seq_if {t : M Bool} : OkS (seqS (ifS t a b) c env st) R ↔ Ok (t env st) fun v s => (v = true → OkS (seqS a c env s) R) ∧ (v = false → OkS (seqS b c env s) R) := by
  rw [oks_seq, oks_if']
  constructor
  · rintro ⟨v, s, e, q⟩
    exact ⟨v, s, e, fun h => oks_seq.mpr (q.1 h), fun h => oks_seq.mpr (q.2 h)⟩
  · rintro ⟨v, s, e, q⟩
    exact ⟨v, s, e, fun h => oks_seq.mp (q.1 h), fun h => oks_seq.mp (q.2 h)⟩
theorem seq_asg {g : GM} : OkS (seqS (asgS f g) b env st) R ↔ Ok (f env st) fun d s => ∃ e s', g d env s = some (e, s') ∧ OkS (b e s') R := by rw [oks_seq, oks_asg]
variable {n : Nat} {kvs : List (Key × D)} {k : Str} {i v : Int} {e : Dn.Env}
theorem oks_daug0 (h : st.get n = some (.dic kvs)) (hk : kGet kvs (.inr k) = some (.int i)) (hz : kvs.length < SZ) (q : R (.nx (some (.ref n) :: e) (st.set n (.dic (kPut kvs (.inr k) (.int (i + v))))))) :
    OkS (daugS addI (varF 0) (cF (.str k)) (cF (.int v)) (some (.ref n) :: e) st) R :=
  oks_daug (n := n) (kvs := kvs) (k := .inr k) (x := .int i) (s1 := st) (s2 := st) (kd := .str k) rfl rfl h rfl hk (ok_c.mpr (ok_some.mpr ⟨kvs, h, hz, q⟩))
theorem seq_daug0 (h : st.get n = some (.dic kvs)) (hk : kGet kvs (.inr k) = some (.int i)) (hz : kvs.length < SZ) (q : OkS (b (some (.ref n) :: e) (st.set n (.dic (kPut kvs (.inr k) (.int (i + v)))))) R) :
    OkS (seqS (daugS addI (varF 0) (cF (.str k)) (cF (.int v))) b (some (.ref n) :: e) st) R := oks_seq.mpr (oks_daug0 h hk hz q)
/-- d[k] = v, d in the first slot, k written -/
theorem sub0 {d : D} {Q : Dn.Env → Sto → Prop} (h : st.get n = some (.dic kvs)) (hz : kvs.length < SZ) (q : Q (some (.ref n) :: e) (st.set n (.dic (kPut kvs (.inr k) d)))) : ∃ e' s', subG (varF 0) (cF (.str k)) d (some (.ref n) :: e) st = some (e', s') ∧ Q e' s' := by
  refine sub_d.mpr ⟨_, st, rfl, _, st, rfl, _, ?_, q⟩
  show (match st.get n with
    | some (.lst xs) => none
    | some (.dic kvs) => (D.str k).key.bind fun k => if kvs.length < SZ then some (st.set n (.dic (kPut kvs k d))) else none
    | _ => none) = _
  simp only [h, key_s, Option.bind_some]
  rw [if_pos hz]
end
theorem isL_of {n : Nat} {s : Sto} {xs : List D} (h : s.get n = some (.lst xs)) : isL s (.ref n) = true := by
  show (s.seq n).isSome = true
  rw [seq_get h]; rfl
theorem mix_ok {k : Nat} {a b : Int} {st : Sto} {Q : D → Sto → Prop} (h : ∀ i : Int, 0 ≤ i → Q (.int i) st) : Ok (Hd.runs (k + 1) 10 [.int a, .int b] st) Q := by
  show Ok (bodyD _ (Hd.b__law_mix (Hd.runs k)) [.int a, .int b] st) Q
  refine ok_body ?_
  unfold Hd.b__law_mix
  simp only [List.map_cons, List.map_nil, List.length_cons, List.length_nil, List.cons_append, List.nil_append, List.replicate, List.set_cons_zero, List.set_cons_succ, seq_set, seq_ret, seq_expr, seq_next, seq_if, seq_asg, seq_seq, seq_cnt, oks_set, oks_ret, oks_expr, oks_next, oks_cnt, oks_if', oks_asg, ok_op, ok_un, ok_c, ok_nil, ok_cons, ok_tup, ok_lst, ok_var0, ok_varS, ok_call, ok_tst, ok_and, ok_or, ok_not, ok_meth, ok_bind, ok_some, ok_ite, ok_mapv, add_ii, add_tt, add_rr, sub_ii, mul_ii, mul_ti, mul_ri, mod_ii, fdiv_ii, pow_ii, lt_ii, get_ti, get_ri, get_rs, len_t, len_r, abs_i, int_b, list_t, list_r, tuple_t, tuple_r, dict_r, is_n, in_t, in_r, addI_ii, subI_ii, min_ii, append_r, key_i, key_s, eq_int, D.bl.injEq, exists_eq_left, exists_eq_left', exists_eq_right, exists_eq_right', exists_eq', Option.some.injEq, decide_eq_true_eq, decide_eq_false_iff_not, Bool.false_eq_true, if_false, if_true, reduceCtorEq, false_implies, true_implies, true_and, and_true, forall_const, imp_self, Bool.not_true, Bool.not_false, Bool.not_eq_true', Bool.not_eq_false', not_true_eq_false, not_false_eq_true, not_true_eq_false, not_false_eq_true, at_lit0, at_lit1, at_lit2, at_lit3, at_lit4, at_lit5, List.length_replicate]
  have e1 : ∀ i : Int, 0 ≤ i.fmod 2147483629 ∧ i.fmod 2147483629 < 2147483629 := fun i => ⟨Int.fmod_nonneg_of_pos i (by decide), Int.fmod_lt_of_pos i (by decide)⟩
  refine ⟨by decide, .inl (by decide), .inr (by decide), by decide, .inl ?_, by decide, ?_⟩
  · have := e1 ((a.fmod 2147483647 + 7 * b + 3) * 48271)
    omega
  · exact h _ (Int.fmod_nonneg_of_pos _ (by decide))
/-! ### the pot -/
def PotAt (P Cl : Nat) (cells : List Int) (st : Sto) : Prop := ∃ a l m mx, st.get P = some (.dic (potD Cl a l m mx)) ∧ 0 ≤ a ∧ 0 ≤ l ∧ (mx = true → cells ≠ []) ∧ st.get Cl = some (.lst (cells.map D.int))
theorem PotAt.of {P Cl : Nat} {cells : List Int} {st s : Sto} (h : PotAt P Cl cells st) (h1 : s.get P = st.get P) (h2 : s.get Cl = st.get Cl) : PotAt P Cl cells s := by
  obtain ⟨a, l, m, mx, q1, q2, q3, q4, q5⟩ := h
  exact ⟨a, l, m, mx, h1.trans q1, q2, q3, q4, h2.trans q5⟩
/-- no other object of the store is changed -/
structure Only1 (P : Nat) (st s : Sto) : Prop where
  size : s.size = st.size
  get : ∀ j, j ≠ P → s.get j = st.get j
theorem Only1.set {P : Nat} {st s : Sto} {o : O} (h : Only1 P st s) : Only1 P st (s.set P o) := ⟨by rw [Sto.size_set]; exact h.size, fun j hj => by rw [Sto.get_set_ne hj]; exact h.get j hj⟩
theorem Only1.refl {P : Nat} {st : Sto} : Only1 P st st := ⟨rfl, fun _ _ => rfl⟩
theorem atI_ge {α : Type} {xs : List α} {i : Int} (h0 : 0 ≤ i) (h1 : i < xs.length) : ∃ x, atI xs i = some x ∧ xs[i.toNat]? = some x := by
  have hi : i.toNat < xs.length := by omega
  refine ⟨xs[i.toNat], ?_, List.getElem?_eq_getElem hi⟩
  unfold atI ixN
  simp only [if_pos h0]
  rw [if_pos (by omega)]
  simp [hi]
theorem take_ok {k : Nat} {P Cl : Nat} {cells : List Int} {st : Sto} {n : Int} (h : PotAt P Cl cells st) (h1 : 1 ≤ n) (h2 : n < 1073741824) : Ok (Hd.runs (k + 2) 11 [.ref P, .int n] st) fun d s => ∃ i : Int, d = .int i ∧ 0 ≤ i ∧ i < n ∧ PotAt P Cl cells s ∧ Only1 P st s := by
  obtain ⟨a, l, m, mx, hP, ha, hl, hmx, hC⟩ := h
  have hPl := Sto.get_lt hP
  have ne : Cl ≠ P := by
    rintro rfl
    rw [hP] at hC
    cases hC
  show Ok (bodyD _ (Hd.b__law_take (Hd.runs (k + 1))) _ st) _
  refine ok_body ?_
  unfold Hd.b__law_take
  simp only [List.map_cons, List.map_nil, List.length_cons, List.length_nil, List.cons_append, List.nil_append, List.replicate, List.set_cons_zero, List.set_cons_succ, seq_set, seq_ret, seq_expr, seq_next, seq_if, seq_asg, seq_seq, seq_cnt, oks_set, oks_ret, oks_expr, oks_next, oks_cnt, oks_if', oks_asg, ok_op, ok_un, ok_c, ok_nil, ok_cons, ok_tup, ok_lst, ok_var0, ok_varS, ok_call, ok_tst, ok_and, ok_or, ok_not, ok_meth, ok_bind, ok_some, ok_ite, ok_mapv, add_ii, add_tt, add_rr, sub_ii, mul_ii, mul_ti, mul_ri, mod_ii, fdiv_ii, pow_ii, lt_ii, get_ti, get_ri, get_rs, len_t, len_r, abs_i, int_b, list_t, list_r, tuple_t, tuple_r, dict_r, is_n, in_t, in_r, addI_ii, subI_ii, min_ii, append_r, key_i, key_s, eq_int, D.bl.injEq, exists_eq_left, exists_eq_left', exists_eq_right, exists_eq_right', exists_eq', Option.some.injEq, decide_eq_true_eq, decide_eq_false_iff_not, Bool.false_eq_true, if_false, if_true, reduceCtorEq, false_implies, true_implies, true_and, and_true, forall_const, imp_self, Bool.not_true, Bool.not_false, Bool.not_eq_true', Bool.not_eq_false', not_true_eq_false, not_false_eq_true, not_true_eq_false, not_false_eq_true, at_lit0, at_lit1, at_lit2, at_lit3, at_lit4, at_lit5, List.length_replicate, hP, potD_cells]
  refine seq_daug0 hP potD_many potD_len ?_
  rw [potD_smany]
  generalize hs1 : st.set P (.dic (potD Cl a l (m + 1) mx)) = s1
  have g1 : s1.get P = some (.dic (potD Cl a l (m + 1) mx)) := by rw [← hs1]; exact Sto.get_set_same hPl
  have c1 : s1.get Cl = some (.lst (cells.map D.int)) := by rw [← hs1, Sto.get_set_ne ne]; exact hC
  have o1 : Only1 P st s1 := by rw [← hs1]; exact Only1.refl.set
  have n0 : n ≠ 0 := by omega
  have cd : CDivN l n := ⟨n0, by omega⟩
  have c7 : ∀ i, CDivN i 7 := fun i => ⟨by decide, by decide⟩
  have fm : ∀ i : Int, 0 ≤ i.fmod n ∧ i.fmod n < n := fun i => ⟨Int.fmod_nonneg_of_pos i (by omega), Int.fmod_lt_of_pos i (by omega)⟩
  simp only [List.map_cons, List.map_nil, List.length_cons, List.length_nil, List.cons_append, List.nil_append, List.replicate, List.set_cons_zero, List.set_cons_succ, seq_set, seq_ret, seq_expr, seq_next, seq_if, seq_asg, seq_seq, seq_cnt, oks_set, oks_ret, oks_expr, oks_next, oks_cnt, oks_if', oks_asg, ok_op, ok_un, ok_c, ok_nil, ok_cons, ok_tup, ok_lst, ok_var0, ok_varS, ok_call, ok_tst, ok_and, ok_or, ok_not, ok_meth, ok_bind, ok_some, ok_ite, ok_mapv, add_ii, add_tt, add_rr, sub_ii, mul_ii, mul_ti, mul_ri, mod_ii, fdiv_ii, pow_ii, lt_ii, get_ti, get_ri, get_rs, len_t, len_r, abs_i, int_b, list_t, list_r, tuple_t, tuple_r, dict_r, is_n, in_t, in_r, addI_ii, subI_ii, min_ii, append_r, key_i, key_s, eq_int, D.bl.injEq, exists_eq_left, exists_eq_left', exists_eq_right, exists_eq_right', exists_eq', Option.some.injEq, decide_eq_true_eq, decide_eq_false_iff_not, Bool.false_eq_true, if_false, if_true, reduceCtorEq, false_implies, true_implies, true_and, and_true, forall_const, imp_self, Bool.not_true, Bool.not_false, Bool.not_eq_true', Bool.not_eq_false', not_true_eq_false, not_false_eq_true, not_true_eq_false, not_false_eq_true, at_lit0, at_lit1, at_lit2, at_lit3, at_lit4, at_lit5, List.length_replicate, g1, c1, potD_mixed, potD_left, potD_at, potD_many, List.length_map]
  have cdn : ∀ l : Int, CDivN l n := fun _ => ⟨n0, by omega⟩
  have fin : ∀ (s : Sto) (a' l' m' x y : Int), s.get P = some (.dic (potD Cl a' l' m' mx)) → 0 ≤ a' → 0 ≤ l' → s.get Cl = some (.lst (cells.map D.int)) → Only1 P st s → Ok (Hd.runs (k + 1) 10 [.int x, .int y] s) fun a s => Ok (fdivD a (.int 7) s) fun a s => Ok (modD a (.int n) s) fun d s =>
      ∃ i, d = D.int i ∧ 0 ≤ i ∧ i < n ∧ PotAt P Cl cells s ∧ Only1 P st s := fun s a' l' m' x y e1 e2 e3 e4 e5 => mix_ok fun i hi => by
    simp only [List.map_cons, List.map_nil, List.length_cons, List.length_nil, List.cons_append, List.nil_append, List.replicate, List.set_cons_zero, List.set_cons_succ, seq_set, seq_ret, seq_expr, seq_next, seq_if, seq_asg, seq_seq, seq_cnt, oks_set, oks_ret, oks_expr, oks_next, oks_cnt, oks_if', oks_asg, ok_op, ok_un, ok_c, ok_nil, ok_cons, ok_tup, ok_lst, ok_var0, ok_varS, ok_call, ok_tst, ok_and, ok_or, ok_not, ok_meth, ok_bind, ok_some, ok_ite, ok_mapv, add_ii, add_tt, add_rr, sub_ii, mul_ii, mul_ti, mul_ri, mod_ii, fdiv_ii, pow_ii, lt_ii, get_ti, get_ri, get_rs, len_t, len_r, abs_i, int_b, list_t, list_r, tuple_t, tuple_r, dict_r, is_n, in_t, in_r, addI_ii, subI_ii, min_ii, append_r, key_i, key_s, eq_int, D.bl.injEq, exists_eq_left, exists_eq_left', exists_eq_right, exists_eq_right', exists_eq', Option.some.injEq, decide_eq_true_eq, decide_eq_false_iff_not, Bool.false_eq_true, if_false, if_true, reduceCtorEq, false_implies, true_implies, true_and, and_true, forall_const, imp_self, Bool.not_true, Bool.not_false, Bool.not_eq_true', Bool.not_eq_false', not_true_eq_false, not_false_eq_true, not_true_eq_false, not_false_eq_true, at_lit0, at_lit1, at_lit2, at_lit3, at_lit4, at_lit5, List.length_replicate]
    exact ⟨c7 _, n0, _, rfl, (fm _).1, (fm _).2, ⟨a', l', m', mx, e1, e2, e3, hmx, e4⟩, e5⟩
  have div : ∀ (s : Sto) (a' l' m' : Int), s.get P = some (.dic (potD Cl a' l' m' mx)) → 0 ≤ a' → 0 ≤ l' → s.get Cl = some (.lst (cells.map D.int)) → Only1 P st s → n ≠ 0 ∧ CDivN l' n ∧
      ∃ e s', subG (varF 0) (cF (.str "left")) (.int (l'.fdiv n)) [some (.ref P), some (.int n), some (.ref Cl), some (.int (l'.fmod n))] s = some (e, s') ∧
        Ok (varF 3 e s') fun d s => ∃ i, d = D.int i ∧ 0 ≤ i ∧ i < n ∧ PotAt P Cl cells s ∧ Only1 P st s := fun s a' l' m' e1 e2 e3 e4 e5 => by
    refine ⟨n0, cdn _, sub0 e1 potD_len ?_⟩
    rw [potD_sleft]
    simp only [List.map_cons, List.map_nil, List.length_cons, List.length_nil, List.cons_append, List.nil_append, List.replicate, List.set_cons_zero, List.set_cons_succ, seq_set, seq_ret, seq_expr, seq_next, seq_if, seq_asg, seq_seq, seq_cnt, oks_set, oks_ret, oks_expr, oks_next, oks_cnt, oks_if', oks_asg, ok_op, ok_un, ok_c, ok_nil, ok_cons, ok_tup, ok_lst, ok_var0, ok_varS, ok_call, ok_tst, ok_and, ok_or, ok_not, ok_meth, ok_bind, ok_some, ok_ite, ok_mapv, add_ii, add_tt, add_rr, sub_ii, mul_ii, mul_ti, mul_ri, mod_ii, fdiv_ii, pow_ii, lt_ii, get_ti, get_ri, get_rs, len_t, len_r, abs_i, int_b, list_t, list_r, tuple_t, tuple_r, dict_r, is_n, in_t, in_r, addI_ii, subI_ii, min_ii, append_r, key_i, key_s, eq_int, D.bl.injEq, exists_eq_left, exists_eq_left', exists_eq_right, exists_eq_right', exists_eq', Option.some.injEq, decide_eq_true_eq, decide_eq_false_iff_not, Bool.false_eq_true, if_false, if_true, reduceCtorEq, false_implies, true_implies, true_and, and_true, forall_const, imp_self, Bool.not_true, Bool.not_false, Bool.not_eq_true', Bool.not_eq_false', not_true_eq_false, not_false_eq_true, not_true_eq_false, not_false_eq_true, at_lit0, at_lit1, at_lit2, at_lit3, at_lit4, at_lit5, List.length_replicate]
    have hl := Sto.get_lt e1
    exact ⟨_, rfl, (fm _).1, (fm _).2, ⟨a', l'.fdiv n, m', mx, Sto.get_set_same hl, e2, Int.fdiv_nonneg e3 (by omega), hmx, (by rw [Sto.get_set_ne ne]; exact e4)⟩, e5.set⟩
  refine ⟨fun hm => ?_, fun _ => ⟨fun h0 => ⟨fun hlt => ?_, fun _ => ⟨fun _ => fin s1 a l (m + 1) _ _ g1 ha hl c1 o1, fun _ => div s1 a l (m + 1) g1 ha hl c1 o1⟩⟩, fun _ => ⟨fun _ => fin s1 a l (m + 1) _ _ g1 ha hl c1 o1, fun _ => div s1 a l (m + 1) g1 ha hl c1 o1⟩⟩⟩
  · have hc : (0 : Int) < cells.length := by
      have := List.length_pos_iff.mpr (hmx hm)
      omega
    obtain ⟨x, hx, hx2⟩ := atI_ge (xs := cells.map D.int) (i := (m + 1).fmod cells.length) (Int.fmod_nonneg_of_pos _ hc) (by rw [List.length_map]; exact Int.fmod_lt_of_pos _ hc)
    rw [List.getElem?_map] at hx2
    obtain ⟨y, _, rfl⟩ := mapS hx2
    exact ⟨by omega, _, hx, fin s1 a l (m + 1) _ _ g1 ha hl c1 o1⟩
  · obtain ⟨x, hx, hx2⟩ := atI_ge (xs := cells.map D.int) (i := a) ha (by rw [List.length_map]; exact hlt)
    rw [List.getElem?_map] at hx2
    obtain ⟨y, _, rfl⟩ := mapS hx2
    refine ⟨_, hx, ?_⟩
    simp only [List.map_cons, List.map_nil, List.length_cons, List.length_nil, List.cons_append, List.nil_append, List.replicate, List.set_cons_zero, List.set_cons_succ, seq_set, seq_ret, seq_expr, seq_next, seq_if, seq_asg, seq_seq, seq_cnt, oks_set, oks_ret, oks_expr, oks_next, oks_cnt, oks_if', oks_asg, ok_op, ok_un, ok_c, ok_nil, ok_cons, ok_tup, ok_lst, ok_var0, ok_varS, ok_call, ok_tst, ok_and, ok_or, ok_not, ok_meth, ok_bind, ok_some, ok_ite, ok_mapv, add_ii, add_tt, add_rr, sub_ii, mul_ii, mul_ti, mul_ri, mod_ii, fdiv_ii, pow_ii, lt_ii, get_ti, get_ri, get_rs, len_t, len_r, abs_i, int_b, list_t, list_r, tuple_t, tuple_r, dict_r, is_n, in_t, in_r, addI_ii, subI_ii, min_ii, append_r, key_i, key_s, eq_int, D.bl.injEq, exists_eq_left, exists_eq_left', exists_eq_right, exists_eq_right', exists_eq', Option.some.injEq, decide_eq_true_eq, decide_eq_false_iff_not, Bool.false_eq_true, if_false, if_true, reduceCtorEq, false_implies, true_implies, true_and, and_true, forall_const, imp_self, Bool.not_true, Bool.not_false, Bool.not_eq_true', Bool.not_eq_false', not_true_eq_false, not_false_eq_true, not_true_eq_false, not_false_eq_true, at_lit0, at_lit1, at_lit2, at_lit3, at_lit4, at_lit5, List.length_replicate]
    have hl1 := Sto.get_lt g1
    refine ⟨⟨by decide, by decide, by decide⟩, by decide, sub0 g1 potD_len ?_⟩
    rw [potD_sleft]
    generalize hv : (if y < 0 then -y else y).fmod (10 ^ Int.toNat 60) = v
    have hv0 : 0 ≤ v := by rw [← hv]; exact Int.fmod_nonneg_of_pos _ (by decide)
    generalize hs2 : s1.set P (.dic (potD Cl a v (m + 1) mx)) = s2
    have g2 : s2.get P = some (.dic (potD Cl a v (m + 1) mx)) := by rw [← hs2]; exact Sto.get_set_same hl1
    have c2 : s2.get Cl = some (.lst (cells.map D.int)) := by rw [← hs2, Sto.get_set_ne ne]; exact c1
    have o2 : Only1 P st s2 := by rw [← hs2]; exact o1.set
    refine seq_daug0 g2 potD_at potD_len ?_
    rw [potD_sat]
    have hl2 := Sto.get_lt g2
    generalize hs3 : s2.set P (.dic (potD Cl (a + 1) v (m + 1) mx)) = s3
    have g3 : s3.get P = some (.dic (potD Cl (a + 1) v (m + 1) mx)) := by rw [← hs3]; exact Sto.get_set_same hl2
    have c3 : s3.get Cl = some (.lst (cells.map D.int)) := by rw [← hs3, Sto.get_set_ne ne]; exact c2
    have o3 : Only1 P st s3 := by rw [← hs3]; exact o2.set
    simp only [List.map_cons, List.map_nil, List.length_cons, List.length_nil, List.cons_append, List.nil_append, List.replicate, List.set_cons_zero, List.set_cons_succ, seq_set, seq_ret, seq_expr, seq_next, seq_if, seq_asg, seq_seq, seq_cnt, oks_set, oks_ret, oks_expr, oks_next, oks_cnt, oks_if', oks_asg, ok_op, ok_un, ok_c, ok_nil, ok_cons, ok_tup, ok_lst, ok_var0, ok_varS, ok_call, ok_tst, ok_and, ok_or, ok_not, ok_meth, ok_bind, ok_some, ok_ite, ok_mapv, add_ii, add_tt, add_rr, sub_ii, mul_ii, mul_ti, mul_ri, mod_ii, fdiv_ii, pow_ii, lt_ii, get_ti, get_ri, get_rs, len_t, len_r, abs_i, int_b, list_t, list_r, tuple_t, tuple_r, dict_r, is_n, in_t, in_r, addI_ii, subI_ii, min_ii, append_r, key_i, key_s, eq_int, D.bl.injEq, exists_eq_left, exists_eq_left', exists_eq_right, exists_eq_right', exists_eq', Option.some.injEq, decide_eq_true_eq, decide_eq_false_iff_not, Bool.false_eq_true, if_false, if_true, reduceCtorEq, false_implies, true_implies, true_and, and_true, forall_const, imp_self, Bool.not_true, Bool.not_false, Bool.not_eq_true', Bool.not_eq_false', not_true_eq_false, not_false_eq_true, not_true_eq_false, not_false_eq_true, at_lit0, at_lit1, at_lit2, at_lit3, at_lit4, at_lit5, List.length_replicate, g3, c3, potD_mixed, potD_left, potD_at, potD_many, List.length_map]
    exact ⟨fun _ => fin s3 (a + 1) v (m + 1) _ _ g3 (by omega) hv0 c3 o3, fun _ => div s3 (a + 1) v (m + 1) g3 (by omega) hv0 c3 o3⟩
end Mw
/-! The maker of middles: what lies in its state; rows put. -/
namespace Mw
open PySem PySem.Spec PyProof.Rows L2 Dn
inductive Kd where
  | num | tru | row | pair | fn (n : Nat)
  deriving DecidableEq
def Kd.d : Kd → D
  | .num => .tup [.str "number"]
  | .tru => .tup [.str "truth"]
  | .row => .tup [.str "row", .tup [.str "number"]]
  | .pair => .tup [.str "record", .str "pair"]
  | .fn n => .tup [.str "fun", .tup (List.replicate n (.tup [.str "number"])), .tup [.str "number"]]
inductive Ak where
  | few | k (x : Kd)
  deriving DecidableEq
def Ak.d : Ak → D
  | .few => .str "few"
  | .k x => x.d
structure Rw where
  x : Option Int
  kd : Option Kd
  op : Str
  args : List Int
  more : D
  line : Int
def oI : Option Int → D
  | none => .non
  | some x => .int x
def oK : Option Kd → D
  | none => .non
  | some x => x.d
def Rw.d (r : Rw) : D := .tup [oI r.x, oK r.kd, .str r.op, .tup (r.args.map .int), r.more, .int r.line]
inductive En where
  | jump (g : Int) (args : List Int) | branch (x y n : Int) | give (x : Int) | fail (l : Int)
def En.d : En → D
  | .jump g as => .tup [.str "jump", .int g, .tup (as.map .int)]
  | .branch x y n => .tup [.str "branch", .int x, .int y, .int n]
  | .give x => .tup [.str "give", .int x]
  | .fail l => .tup [.str "fail", .str "fail", .int l]
def pD (p : Int × Kd) : D := .tup [.int p.1, p.2.d]
structure Blk where
  pr : List (Int × Kd)
  rows : List Rw
  en : En
def Blk.d (b : Blk) : D := .tup [.tup (b.pr.map pD), .tup (b.rows.map Rw.d), b.en.d]
def oB : Option Blk → D
  | none => .non
  | some b => b.d
def cD (c : Str × Int × Int) : D := .tup [.str c.1, .int c.2.1, .int c.2.2]
/-- what stays while a function is made -/
structure Fx where
  S : Nat
  P : Nat
  Cl : Nat
  C : Nat
  cells : List Int
  calls : List (Str × Int × Int)
  fi : List Kd
  mo : Int
structure Gs where
  B : Nat
  R : Nat
  E : Nat
  Pa : Nat
  now : Int
  nx : Int
  ln : Int
  bu : Int
  bl : List (Option Blk)
  rs : List Rw
  en : List (Int × Kd)
  pr : List (Int × Kd)
def stD (B : Nat) (now : Int) (R Pa E : Nat) (nx ln : Int) (C : Nat) (bu : Int) (fi : List Kd) (mo : Int) : List (Key × D) :=
  [(.inr "blocks", .ref B), (.inr "now", .int now), (.inr "rows", .ref R), (.inr "params", .ref Pa), (.inr "env", .ref E), (.inr "next", .int nx), (.inr "line", .int ln), (.inr "calls", .ref C), (.inr "budget", .int bu), (.inr "fields", .tup (fi.map Kd.d)), (.inr "most", .int mo)]
abbrev gD (c : Fx) (g : Gs) : List (Key × D) := stD g.B g.now g.R g.Pa g.E g.nx g.ln c.C g.bu c.fi c.mo
section
variable {B : Nat} {now : Int} {R Pa E : Nat} {nx ln : Int} {C : Nat} {bu : Int} {fi : List Kd} {mo v : Int} {n : Nat}
theorem st_blocks : kGet (stD B now R Pa E nx ln C bu fi mo) (.inr "blocks") = some (.ref B) := by rfl
theorem st_now : kGet (stD B now R Pa E nx ln C bu fi mo) (.inr "now") = some (.int now) := by rfl
theorem st_rows : kGet (stD B now R Pa E nx ln C bu fi mo) (.inr "rows") = some (.ref R) := by rfl
theorem st_params : kGet (stD B now R Pa E nx ln C bu fi mo) (.inr "params") = some (.ref Pa) := by rfl
theorem st_env : kGet (stD B now R Pa E nx ln C bu fi mo) (.inr "env") = some (.ref E) := by rfl
theorem st_next : kGet (stD B now R Pa E nx ln C bu fi mo) (.inr "next") = some (.int nx) := by rfl
theorem st_line : kGet (stD B now R Pa E nx ln C bu fi mo) (.inr "line") = some (.int ln) := by rfl
theorem st_calls : kGet (stD B now R Pa E nx ln C bu fi mo) (.inr "calls") = some (.ref C) := by rfl
theorem st_budget : kGet (stD B now R Pa E nx ln C bu fi mo) (.inr "budget") = some (.int bu) := by rfl
theorem st_fields : kGet (stD B now R Pa E nx ln C bu fi mo) (.inr "fields") = some (.tup (fi.map Kd.d)) := by rfl
theorem st_most : kGet (stD B now R Pa E nx ln C bu fi mo) (.inr "most") = some (.int mo) := by rfl
theorem st_snow : kPut (stD B now R Pa E nx ln C bu fi mo) (.inr "now") (.int v) = stD B v R Pa E nx ln C bu fi mo := by rfl
theorem st_srows : kPut (stD B now R Pa E nx ln C bu fi mo) (.inr "rows") (.ref n) = stD B now n Pa E nx ln C bu fi mo := by rfl
theorem st_sparams : kPut (stD B now R Pa E nx ln C bu fi mo) (.inr "params") (.ref n) = stD B now R n E nx ln C bu fi mo := by rfl
theorem st_senv : kPut (stD B now R Pa E nx ln C bu fi mo) (.inr "env") (.ref n) = stD B now R Pa n nx ln C bu fi mo := by rfl
theorem st_snext : kPut (stD B now R Pa E nx ln C bu fi mo) (.inr "next") (.int v) = stD B now R Pa E v ln C bu fi mo := by rfl
theorem st_sline : kPut (stD B now R Pa E nx ln C bu fi mo) (.inr "line") (.int v) = stD B now R Pa E nx v C bu fi mo := by rfl
theorem st_sbudget : kPut (stD B now R Pa E nx ln C bu fi mo) (.inr "budget") (.int v) = stD B now R Pa E nx ln C v fi mo := by rfl
theorem st_len : (stD B now R Pa E nx ln C bu fi mo).length < SZ := by show 11 < SZ; decide
end
/-- the state as it lies in the store -/
structure At (c : Fx) (g : Gs) (st : Sto) : Prop where
  S : st.get c.S = some (.dic (gD c g))
  P : PotAt c.P c.Cl c.cells st
  B : st.get g.B = some (.lst (g.bl.map oB))
  R : st.get g.R = some (.lst (g.rs.map Rw.d))
  E : st.get g.E = some (.lst (g.en.map pD))
  Pa : st.get g.Pa = some (.lst (g.pr.map pD))
  C : st.get c.C = some (.lst (c.calls.map cD))
  nd : [g.B, g.R, g.E, g.Pa, c.C, c.Cl].Nodup
  sp : c.S ≠ c.P
section
variable {c : Fx} {g g' : Gs} {st s : Sto} {k : Nat}
theorem PotAt.ne {P Cl n : Nat} {cells : List Int} {st : Sto} (h : PotAt P Cl cells st) {xs : List D} (e : st.get n = some (.lst xs)) : n ≠ P := by
  obtain ⟨a, l, m, mx, q, _⟩ := h
  rintro rfl
  rw [q] at e
  cases e
theorem neS {n : Nat} (h : At c g st) {xs : List D} (e : st.get n = some (.lst xs)) : n ≠ c.S := by
  rintro rfl
  rw [h.S] at e
  cases e
/-- the state's own dict written -/
theorem At.setS (h : At c g st) (g' : Gs) (e : g'.B = g.B ∧ g'.R = g.R ∧ g'.E = g.E ∧ g'.Pa = g.Pa ∧ g'.bl = g.bl ∧ g'.rs = g.rs ∧ g'.en = g.en ∧ g'.pr = g.pr) : At c g' (st.set c.S (.dic (gD c g'))) := by
  obtain ⟨e1, e2, e3, e4, e5, e6, e7, e8⟩ := e
  have hS := Sto.get_lt h.S
  refine ⟨Sto.get_set_same hS, h.P.of (Sto.get_set_ne (Ne.symm h.sp)) (Sto.get_set_ne ?_), ?_, ?_, ?_, ?_, ?_, by rw [e1, e2, e3, e4]; exact h.nd, h.sp⟩
  · obtain ⟨a, l, m, mx, _, _, _, _, q⟩ := h.P
    exact neS h q
  · rw [e1, e5, Sto.get_set_ne (neS h h.B)]; exact h.B
  · rw [e2, e6, Sto.get_set_ne (neS h h.R)]; exact h.R
  · rw [e3, e7, Sto.get_set_ne (neS h h.E)]; exact h.E
  · rw [e4, e8, Sto.get_set_ne (neS h h.Pa)]; exact h.Pa
  · rw [Sto.get_set_ne (neS h h.C)]; exact h.C
theorem At.ndS (h : At c g st) : g.B ≠ g.R ∧ g.B ≠ g.E ∧ g.B ≠ g.Pa ∧ g.B ≠ c.C ∧ g.B ≠ c.Cl ∧ g.R ≠ g.E ∧ g.R ≠ g.Pa ∧ g.R ≠ c.C ∧ g.R ≠ c.Cl ∧ g.E ≠ g.Pa ∧ g.E ≠ c.C ∧ g.E ≠ c.Cl ∧ g.Pa ≠ c.C ∧ g.Pa ≠ c.Cl ∧ c.C ≠ c.Cl := by
  have := h.nd
  simp only [List.nodup_cons, List.mem_cons, List.not_mem_nil, or_false, not_or, List.nodup_nil, and_true, not_false_eq_true] at this
  obtain ⟨⟨a1, a2, a3, a4, a5⟩, ⟨b1, b2, b3, b4⟩, ⟨c1, c2, c3⟩, ⟨d1, d2⟩, e1⟩ := this
  exact ⟨a1, a2, a3, a4, a5, b1, b2, b3, b4, c1, c2, c3, d1, d2, e1⟩
theorem At.setE (h : At c g st) (en : List (Int × Kd)) : At c { g with en := en } (st.set g.E (.lst (en.map pD))) := by
  obtain ⟨a1, a2, a3, a4, a5, b1, b2, b3, b4, c1, c2, c3, d1, d2, e1⟩ := h.ndS
  have hl := Sto.get_lt h.E
  refine ⟨?_, h.P.of (Sto.get_set_ne (Ne.symm (h.P.ne h.E))) (Sto.get_set_ne (Ne.symm c3)), ?_, ?_, Sto.get_set_same hl, ?_, ?_, h.nd, h.sp⟩
  · rw [Sto.get_set_ne (Ne.symm (neS h h.E))]; exact h.S
  · show (st.set g.E _).get g.B = _; rw [Sto.get_set_ne a2]; exact h.B
  · show (st.set g.E _).get g.R = _; rw [Sto.get_set_ne b1]; exact h.R
  · show (st.set g.E _).get g.Pa = _; rw [Sto.get_set_ne (Ne.symm c1)]; exact h.Pa
  · rw [Sto.get_set_ne (Ne.symm c2)]; exact h.C
theorem At.setR (h : At c g st) (rs : List Rw) : At c { g with rs := rs } (st.set g.R (.lst (rs.map Rw.d))) := by
  obtain ⟨a1, a2, a3, a4, a5, b1, b2, b3, b4, c1, c2, c3, d1, d2, e1⟩ := h.ndS
  have hl := Sto.get_lt h.R
  refine ⟨?_, h.P.of (Sto.get_set_ne (Ne.symm (h.P.ne h.R))) (Sto.get_set_ne (Ne.symm b4)), ?_, Sto.get_set_same hl, ?_, ?_, ?_, h.nd, h.sp⟩
  · rw [Sto.get_set_ne (Ne.symm (neS h h.R))]; exact h.S
  · show (st.set g.R _).get g.B = _; rw [Sto.get_set_ne a1]; exact h.B
  · show (st.set g.R _).get g.E = _; rw [Sto.get_set_ne (Ne.symm b1)]; exact h.E
  · show (st.set g.R _).get g.Pa = _; rw [Sto.get_set_ne (Ne.symm b2)]; exact h.Pa
  · rw [Sto.get_set_ne (Ne.symm b3)]; exact h.C
theorem At.setB (h : At c g st) (bl : List (Option Blk)) : At c { g with bl := bl } (st.set g.B (.lst (bl.map oB))) := by
  obtain ⟨a1, a2, a3, a4, a5, b1, b2, b3, b4, c1, c2, c3, d1, d2, e1⟩ := h.ndS
  have hl := Sto.get_lt h.B
  refine ⟨?_, h.P.of (Sto.get_set_ne (Ne.symm (h.P.ne h.B))) (Sto.get_set_ne (Ne.symm a5)), Sto.get_set_same hl, ?_, ?_, ?_, ?_, h.nd, h.sp⟩
  · rw [Sto.get_set_ne (Ne.symm (neS h h.B))]; exact h.S
  · show (st.set g.B _).get g.R = _; rw [Sto.get_set_ne (Ne.symm a1)]; exact h.R
  · show (st.set g.B _).get g.E = _; rw [Sto.get_set_ne (Ne.symm a2)]; exact h.E
  · show (st.set g.B _).get g.Pa = _; rw [Sto.get_set_ne (Ne.symm a3)]; exact h.Pa
  · rw [Sto.get_set_ne (Ne.symm a4)]; exact h.C
/-- something new in the store, or the pot turned: what the state holds stays -/
theorem At.fm {W : List Nat} (h : At c g st) (f : Fm W st s) (w : ∀ i ∈ W, i ≠ c.S ∧ i ≠ g.B ∧ i ≠ g.R ∧ i ≠ g.E ∧ i ≠ g.Pa ∧ i ≠ c.C) (hp : PotAt c.P c.Cl c.cells s) : At c g s := by
  refine ⟨f.keep h.S fun q => (w _ q).1 rfl, hp, f.keep h.B fun q => (w _ q).2.1 rfl, f.keep h.R fun q => (w _ q).2.2.1 rfl, f.keep h.E fun q => (w _ q).2.2.2.1 rfl, f.keep h.Pa fun q => (w _ q).2.2.2.2.1 rfl, f.keep h.C fun q => (w _ q).2.2.2.2.2 rfl, h.nd, h.sp⟩
theorem PotAt.push {P Cl : Nat} {cells : List Int} {st : Sto} {o : O} (h : PotAt P Cl cells st) : PotAt P Cl cells (st.push o) := by
  obtain ⟨a, l, m, mx, q1, q2, q3, q4, q5⟩ := id h
  exact h.of (Sto.get_push_lt (Sto.get_lt q1)) (Sto.get_push_lt (Sto.get_lt q5))
theorem At.push {o : O} (h : At c g st) : At c g (st.push o) := h.fm (W := []) Fm.push (fun i q => by cases q) h.P.push
theorem At.take (h : At c g st) (f : Only1 c.P st s) (hp : PotAt c.P c.Cl c.cells s) : At c g s :=
  h.fm (W := [c.P]) ⟨Nat.le_of_eq f.size.symm, fun i _ hi => f.get i fun q => hi (by simp [q])⟩ (fun i q => by
    simp only [List.mem_cons, List.not_mem_nil, or_false] at q
    subst q
    exact ⟨Ne.symm h.sp, Ne.symm (h.P.ne h.B), Ne.symm (h.P.ne h.R), Ne.symm (h.P.ne h.E), Ne.symm (h.P.ne h.Pa), Ne.symm (h.P.ne h.C)⟩) hp
theorem Only1.fm {P : Nat} {W : List Nat} (f : Only1 P st s) (h : P ∈ W) : Fm W st s := ⟨Nat.le_of_eq f.size.symm, fun i _ hi => f.get i fun q => hi (by rw [q]; exact h)⟩
/-! ### a row put -/
def Gs.put (g : Gs) (kd : Option Kd) (op : Str) (as : List Int) (more : D) : Gs :=
  { g with nx := (match kd with | none => g.nx | some _ => g.nx + 1), en := (match kd with | none => g.en | some k => g.en ++ [(g.nx, k)]), ln := g.ln + 1, rs := g.rs ++ [⟨(match kd with | none => none | some _ => some g.nx), kd, op, as, more, g.ln + 1⟩] }
theorem kd_non (k : Kd) : isNonD k.d = false := by cases k <;> rfl
theorem put_ok {kd : Option Kd} {op : Str} {a more : D} {xs : List Int} (h : At c g st) (ha : (a = .tup (xs.map .int)) ∨ ∃ n, a = .ref n ∧ st.get n = some (.lst (xs.map .int)) ∧ n ≠ g.E ∧ n ≠ g.R) (h1 : g.rs.length < SZ) (h2 : g.en.length < SZ)
    {G : D → Sto → Prop} (hG : ∀ s, At c (g.put kd op xs more) s → Fm [c.S, g.R, g.E] st s → s.size = st.size → G (match kd with | none => .non | some _ => .int g.nx) s) : Ok (Hd.runs (k + 1) 13 [.ref c.S, oK kd, .str op, a, more] st) G := by
  show Ok (bodyD _ (Hd.b__law_put (Hd.runs k)) _ st) _
  refine ok_body ?_
  unfold Hd.b__law_put
  -- the rows' end
  have fin : ∀ (s : Sto) (g1 : Gs) (x : Option Int), At c g1 s → g1.R = g.R → g1.rs = g.rs → g1.ln = g.ln → g1.E = g.E → Fm [c.S, g.R, g.E] st s → s.size = st.size → ∀ (e : D), e = oI x → ∀ G : D → Sto → Prop, (∀ s', At c { g1 with ln := g.ln + 1, rs := g.rs ++ [(⟨x, kd, op, xs, more, g.ln + 1⟩ : Rw)] } s' → Fm [c.S, g.R, g.E] st s' → s'.size = st.size → G e s') →
      OkS (seqS (daugS addI (varF 0) (cF (.str "line")) (cF (.int 1))) (seqS (exprS (methF isL appendD (opF getD (varF 0) (cF (.str "rows"))) (consF (tupF (consF (varF 5) (consF (varF 1) (consF (varF 2) (consF (unF tupleD (varF 3)) (consF (varF 4) (consF (opF getD (varF 0) (cF (.str "line"))) nilF))))))) nilF))) (retS (varF 5)))
        [some (.ref c.S), some (oK kd), some (.str op), some a, some more, some e] s) (fun r => match r with
          | .rt d s => G d s
          | .nx _ s => G .non s
          | _ => False) := by
    intro s g1 x hA eR ers eln eE hf hsz e he G hG
    refine seq_daug0 hA.S st_line st_len ?_
    rw [st_sline, eln]
    have hA2 := hA.setS { g1 with ln := g.ln + 1 } ⟨rfl, rfl, rfl, rfl, rfl, rfl, rfl, rfl⟩
    have e2 : gD c { g1 with ln := g.ln + 1 } = stD g1.B g1.now g1.R g1.Pa g1.E g1.nx (g.ln + 1) c.C g1.bu c.fi c.mo := rfl
    rw [e2] at hA2
    have f2 : Fm [c.S, g.R, g.E] st (s.set c.S (.dic (stD g1.B g1.now g1.R g1.Pa g1.E g1.nx (g.ln + 1) c.C g1.bu c.fi c.mo))) := hf.trans (Fm.set (W := [c.S, g.R, g.E]) (.inl (by simp))) fun i q => .inl q
    have z2 : (s.set c.S (.dic (stD g1.B g1.now g1.R g1.Pa g1.E g1.nx (g.ln + 1) c.C g1.bu c.fi c.mo))).size = st.size := by rw [Sto.size_set]; exact hsz
    generalize (s.set c.S (.dic (stD g1.B g1.now g1.R g1.Pa g1.E g1.nx (g.ln + 1) c.C g1.bu c.fi c.mo))) = s2 at hA2 f2 z2 ⊢
    have gS := hA2.S
    have gR := hA2.R
    simp only [] at gS gR
    rw [e2] at gS
    have tup : Ok (tupleD a s2) fun d s => d = .tup (xs.map .int) ∧ s = s2 := by
      rcases ha with rfl | ⟨n, rfl, hn, n1, n2⟩
      · exact ok_some.mpr ⟨rfl, rfl⟩
      · have hq : s2.get n = some (.lst (xs.map .int)) := f2.keep hn (by
          simp only [List.mem_cons, List.not_mem_nil, or_false, not_or]
          exact ⟨neS h hn, n2, n1⟩)
        rw [tuple_r, seq_get hq]
        exact ok_some.mpr ⟨rfl, rfl⟩
    obtain ⟨td, ts, te, t1, t2⟩ := tup
    subst t1 t2
    have hz : ((g1.rs.map Rw.d).length < SZ) := by rw [List.length_map, ers]; exact h1
    have hz6 : [e, oK kd, .str op, .tup (xs.map .int), more, .int (g.ln + 1)].length ≤ SZ := by show 6 ≤ SZ; decide
    simp only [List.length_cons, List.length_nil] at hz6
    simp only [List.map_cons, List.map_nil, List.length_cons, List.length_nil, List.cons_append, List.nil_append, List.replicate, List.set_cons_zero, List.set_cons_succ, seq_set, seq_ret, seq_expr, seq_next, seq_if, seq_asg, seq_seq, seq_cnt, oks_set, oks_ret, oks_expr, oks_next, oks_cnt, oks_if', oks_asg, ok_op, ok_un, ok_c, ok_nil, ok_cons, ok_tup, ok_lst, ok_var0, ok_varS, ok_call, ok_tst, ok_and, ok_or, ok_not, ok_meth, ok_bind, ok_some, ok_ite, ok_mapv, add_ii, add_tt, add_rr, sub_ii, mul_ii, mul_ti, mul_ri, mod_ii, fdiv_ii, pow_ii, lt_ii, get_ti, get_ri, get_rs, len_t, len_r, abs_i, int_b, list_t, list_r, tuple_t, tuple_r, dict_r, is_n, in_t, in_r, addI_ii, subI_ii, min_ii, append_r, key_i, key_s, eq_int, D.bl.injEq, exists_eq_left, exists_eq_left', exists_eq_right, exists_eq_right', exists_eq', Option.some.injEq, decide_eq_true_eq, decide_eq_false_iff_not, Bool.false_eq_true, if_false, if_true, reduceCtorEq, false_implies, true_implies, true_and, and_true, forall_const, imp_self, Bool.not_true, Bool.not_false, Bool.not_eq_true', Bool.not_eq_false', not_true_eq_false, not_false_eq_true, not_true_eq_false, not_false_eq_true, at_lit0, at_lit1, at_lit2, at_lit3, at_lit4, at_lit5, List.length_replicate, gS, st_rows, st_line, te, gR, isL_of gR, hz6, hz]
    have hA3 := hA2.setR (g.rs ++ [(⟨x, kd, op, xs, more, g.ln + 1⟩ : Rw)])
    have e3 : g1.rs.map Rw.d ++ [.tup [e, oK kd, .str op, .tup (xs.map .int), more, .int (g.ln + 1)]] = (g.rs ++ [(⟨x, kd, op, xs, more, g.ln + 1⟩ : Rw)]).map Rw.d := by
      rw [List.map_append, ers, he]
      rfl
    rw [e3]
    refine hG _ hA3 ?_ ?_
    · refine f2.trans (Fm.set (W := [c.S, g.R, g.E]) (.inl ?_)) fun i q => .inl q
      show g1.R ∈ _
      rw [eR]; simp
    · rw [Sto.size_set]; exact z2
  cases kd with
  | none =>
    simp only [List.map_cons, List.map_nil, List.length_cons, List.length_nil, List.cons_append, List.nil_append, List.replicate, List.set_cons_zero, List.set_cons_succ, seq_set, seq_ret, seq_expr, seq_next, seq_if, seq_asg, seq_seq, seq_cnt, oks_set, oks_ret, oks_expr, oks_next, oks_cnt, oks_if', oks_asg, ok_op, ok_un, ok_c, ok_nil, ok_cons, ok_tup, ok_lst, ok_var0, ok_varS, ok_call, ok_tst, ok_and, ok_or, ok_not, ok_meth, ok_bind, ok_some, ok_ite, ok_mapv, add_ii, add_tt, add_rr, sub_ii, mul_ii, mul_ti, mul_ri, mod_ii, fdiv_ii, pow_ii, lt_ii, get_ti, get_ri, get_rs, len_t, len_r, abs_i, int_b, list_t, list_r, tuple_t, tuple_r, dict_r, is_n, in_t, in_r, addI_ii, subI_ii, min_ii, append_r, key_i, key_s, eq_int, D.bl.injEq, exists_eq_left, exists_eq_left', exists_eq_right, exists_eq_right', exists_eq', Option.some.injEq, decide_eq_true_eq, decide_eq_false_iff_not, Bool.false_eq_true, if_false, if_true, reduceCtorEq, false_implies, true_implies, true_and, and_true, forall_const, imp_self, Bool.not_true, Bool.not_false, Bool.not_eq_true', Bool.not_eq_false', not_true_eq_false, not_false_eq_true, not_true_eq_false, not_false_eq_true, at_lit0, at_lit1, at_lit2, at_lit3, at_lit4, at_lit5, List.length_replicate, oK, isNonD]
    refine fin st g none h rfl rfl rfl rfl .refl rfl .non rfl _ fun s' q1 q2 q3 => hG s' q1 q2 q3
  | some kd =>
    simp only [List.map_cons, List.map_nil, List.length_cons, List.length_nil, List.cons_append, List.nil_append, List.replicate, List.set_cons_zero, List.set_cons_succ, seq_set, seq_ret, seq_expr, seq_next, seq_if, seq_asg, seq_seq, seq_cnt, oks_set, oks_ret, oks_expr, oks_next, oks_cnt, oks_if', oks_asg, ok_op, ok_un, ok_c, ok_nil, ok_cons, ok_tup, ok_lst, ok_var0, ok_varS, ok_call, ok_tst, ok_and, ok_or, ok_not, ok_meth, ok_bind, ok_some, ok_ite, ok_mapv, add_ii, add_tt, add_rr, sub_ii, mul_ii, mul_ti, mul_ri, mod_ii, fdiv_ii, pow_ii, lt_ii, get_ti, get_ri, get_rs, len_t, len_r, abs_i, int_b, list_t, list_r, tuple_t, tuple_r, dict_r, is_n, in_t, in_r, addI_ii, subI_ii, min_ii, append_r, key_i, key_s, eq_int, D.bl.injEq, exists_eq_left, exists_eq_left', exists_eq_right, exists_eq_right', exists_eq', Option.some.injEq, decide_eq_true_eq, decide_eq_false_iff_not, Bool.false_eq_true, if_false, if_true, reduceCtorEq, false_implies, true_implies, true_and, and_true, forall_const, imp_self, Bool.not_true, Bool.not_false, Bool.not_eq_true', Bool.not_eq_false', not_true_eq_false, not_false_eq_true, not_true_eq_false, not_false_eq_true, at_lit0, at_lit1, at_lit2, at_lit3, at_lit4, at_lit5, List.length_replicate, oK, kd_non, h.S, st_next]
    refine seq_daug0 h.S st_next st_len ?_
    rw [st_snext]
    have hA2 := h.setS { g with nx := g.nx + 1 } ⟨rfl, rfl, rfl, rfl, rfl, rfl, rfl, rfl⟩
    have e2 : gD c { g with nx := g.nx + 1 } = stD g.B g.now g.R g.Pa g.E (g.nx + 1) g.ln c.C g.bu c.fi c.mo := rfl
    rw [e2] at hA2
    have f2 : Fm [c.S, g.R, g.E] st (st.set c.S (.dic (stD g.B g.now g.R g.Pa g.E (g.nx + 1) g.ln c.C g.bu c.fi c.mo))) := Fm.set (.inl (by simp))
    have z2 : (st.set c.S (.dic (stD g.B g.now g.R g.Pa g.E (g.nx + 1) g.ln c.C g.bu c.fi c.mo))).size = st.size := Sto.size_set _ _ _
    generalize (st.set c.S (.dic (stD g.B g.now g.R g.Pa g.E (g.nx + 1) g.ln c.C g.bu c.fi c.mo))) = s2 at hA2 f2 z2 ⊢
    have gS := hA2.S
    have gE := hA2.E
    simp only [] at gS gE
    rw [e2] at gS
    have hz : ((g.en.map pD).length < SZ) := by rw [List.length_map]; exact h2
    have hz2 : 0 + 1 + 1 ≤ SZ := by decide
    simp only [List.map_cons, List.map_nil, List.length_cons, List.length_nil, List.cons_append, List.nil_append, List.replicate, List.set_cons_zero, List.set_cons_succ, seq_set, seq_ret, seq_expr, seq_next, seq_if, seq_asg, seq_seq, seq_cnt, oks_set, oks_ret, oks_expr, oks_next, oks_cnt, oks_if', oks_asg, ok_op, ok_un, ok_c, ok_nil, ok_cons, ok_tup, ok_lst, ok_var0, ok_varS, ok_call, ok_tst, ok_and, ok_or, ok_not, ok_meth, ok_bind, ok_some, ok_ite, ok_mapv, add_ii, add_tt, add_rr, sub_ii, mul_ii, mul_ti, mul_ri, mod_ii, fdiv_ii, pow_ii, lt_ii, get_ti, get_ri, get_rs, len_t, len_r, abs_i, int_b, list_t, list_r, tuple_t, tuple_r, dict_r, is_n, in_t, in_r, addI_ii, subI_ii, min_ii, append_r, key_i, key_s, eq_int, D.bl.injEq, exists_eq_left, exists_eq_left', exists_eq_right, exists_eq_right', exists_eq', Option.some.injEq, decide_eq_true_eq, decide_eq_false_iff_not, Bool.false_eq_true, if_false, if_true, reduceCtorEq, false_implies, true_implies, true_and, and_true, forall_const, imp_self, Bool.not_true, Bool.not_false, Bool.not_eq_true', Bool.not_eq_false', not_true_eq_false, not_false_eq_true, not_true_eq_false, not_false_eq_true, at_lit0, at_lit1, at_lit2, at_lit3, at_lit4, at_lit5, List.length_replicate, gS, st_env, gE, isL_of gE, hz2, hz]
    have hA3 := hA2.setE (g.en ++ [(g.nx, kd)])
    have e3 : g.en.map pD ++ [.tup [.int g.nx, kd.d]] = (g.en ++ [(g.nx, kd)]).map pD := by rw [List.map_append]; rfl
    rw [e3]
    refine fin _ _ (some g.nx) hA3 rfl rfl rfl rfl ?_ ?_ _ rfl _ fun s' q1 q2 q3 => hG s' q1 q2 q3
    · exact f2.trans (Fm.set (W := [c.S, g.R, g.E]) (.inl (by simp))) fun i q => .inl q
    · rw [Sto.size_set]; exact z2
end
end Mw
/-! Comparing kinds; comprehensions by what they make. -/
namespace Mw
open PySem PySem.Spec PyProof.Rows L2 Dn
/-! ### == of kinds -/
def Kd.p : Kd → PyData
  | .num => .tuple [.str "number"]
  | .tru => .tuple [.str "truth"]
  | .row => .tuple [.str "row", .tuple [.str "number"]]
  | .pair => .tuple [.str "record", .str "pair"]
  | .fn n => .tuple [.str "fun", .tuple (List.replicate n (.tuple [.str "number"])), .tuple [.str "number"]]
def Ak.p : Ak → PyData
  | .few => .str "few"
  | .k x => x.p
theorem pyL_rep {f : D → Option PyData} {d : D} {p : PyData} (h : f d = some p) : ∀ n : Nat, pyL f (List.replicate n d) = some (List.replicate n p)
  | 0 => rfl
  | n + 1 => by
    rw [List.replicate_succ, List.replicate_succ]
    unfold pyL
    rw [h, pyL_rep h n]
    rfl
theorem py_kd {st : Sto} (k : Kd) : py 64 st k.d = some k.p := by
  cases k with
  | fn n =>
    show (pyL (py 63 st) [.str "fun", .tup (List.replicate n (.tup [.str "number"])), .tup [.str "number"]]).bind (fun ys => some (PyData.tuple ys)) = _
    have e : py 63 st (.tup (List.replicate n (.tup [.str "number"]))) = some (.tuple (List.replicate n (.tuple [.str "number"]))) := by
      show (pyL (py 62 st) (List.replicate n (.tup [.str "number"]))).bind (fun ys => some (PyData.tuple ys)) = _
      rw [pyL_rep (p := .tuple [.str "number"]) rfl n]
      rfl
    have e0 : py 63 st (.str "fun") = some (.str "fun") := rfl
    have e2 : py 63 st (.tup [.str "number"]) = some (.tuple [.str "number"]) := rfl
    simp only [pyL, e0, e, e2, Option.bind_some]
    rfl
  | _ => rfl
theorem py_ak {st : Sto} (a : Ak) : py 64 st a.d = some a.p := by
  cases a with
  | few => rfl
  | k x => exact py_kd x
theorem lay_rep {p : PyData} (h : p.canLay0 = true) : ∀ n : Nat, PyData.canLayAll0 (List.replicate n p) = true
  | 0 => rfl
  | n + 1 => by
    rw [List.replicate_succ]
    unfold PyData.canLayAll0
    rw [h, lay_rep h n]
    rfl
theorem depth_rep {p : PyData} {m : Nat} (h : p.depth ≤ m) : ∀ n : Nat, PyData.depthAll (List.replicate n p) ≤ m
  | 0 => Nat.zero_le _
  | n + 1 => by
    rw [List.replicate_succ]
    unfold PyData.depthAll
    exact Nat.max_le.mpr ⟨h, depth_rep h n⟩
theorem shaped_kd (k : Kd) : SeqAt.shaped k.p = true := by
  cases k with
  | fn n =>
    unfold SeqAt.shaped
    rw [Bool.and_eq_true, decide_eq_true_eq]
    constructor
    · unfold Kd.p
      simp only [PyData.canLay0, PyData.canLayAll0, lay_rep (p := .tuple [.str "number"]) (by decide +kernel) n, Bool.and_true, Bool.true_and]
      decide +kernel
    · unfold Kd.p
      simp only [PyData.depth, PyData.depthAll]
      have := depth_rep (p := .tuple [.str "number"]) (m := 1) (by decide +kernel) n
      omega
  | _ => decide +kernel
theorem shaped_ak (a : Ak) : SeqAt.shaped a.p = true := by
  cases a with
  | few => decide +kernel
  | k x => exact shaped_kd x
theorem eqv_rep {p : PyData} (h : PyData.eqv p p = true) : ∀ n m : Nat, PyData.eqvAll (List.replicate n p) (List.replicate m p) = decide (n = m)
  | 0, 0 => rfl
  | 0, m + 1 => by rw [List.replicate_succ]; rfl
  | n + 1, 0 => by rw [List.replicate_succ]; rfl
  | n + 1, m + 1 => by
    rw [List.replicate_succ, List.replicate_succ]
    unfold PyData.eqvAll
    rw [h, eqv_rep h n m]
    simp
theorem eqv_str {a b : Str} : PyData.eqv (.str a) (.str b) = (a == b) := by simp only [PyData.eqv]
theorem eqv_ak (a b : Ak) : PyData.eqv a.p b.p = decide (a = b) := by
  cases a with
  | few =>
    cases b with
    | few => decide +kernel
    | k y => cases y <;> (simp only [Ak.p, Kd.p, PyData.eqv]; rfl)
  | k x =>
    cases b with
    | few => cases x <;> (simp only [Ak.p, Kd.p, PyData.eqv]; rfl)
    | k y =>
      cases x <;> cases y <;> try (first | decide +kernel | (simp only [Ak.p, Kd.p, PyData.eqv, PyData.eqvAll]; rfl))
      rename_i n m
      have e : PyData.eqv (.tuple [.str "number"]) (.tuple [.str "number"]) = true := by decide +kernel
      simp only [Ak.p, Kd.p]
      rw [PyData.eqv, PyData.eqvAll, PyData.eqvAll, PyData.eqvAll, PyData.eqvAll, e]
      have e2 : PyData.eqv (.tuple (List.replicate n (.tuple [.str "number"]))) (.tuple (List.replicate m (.tuple [.str "number"]))) = decide (n = m) := by
        rw [PyData.eqv]; exact eqv_rep e n m
      have e3 : PyData.eqv (.str "fun") (.str "fun") = true := by decide +kernel
      rw [e2, e3]
      simp
theorem eq_ak {neg : Bool} {a b : Ak} {s : Sto} : eqD neg a.d b.d s = some (.bl (if neg then !decide (a = b) else decide (a = b)), s) := by
  unfold eqD
  rw [py_ak, py_ak, Option.bind_some, Option.bind_some, if_pos ⟨shaped_ak a, shaped_ak b⟩, eqv_ak]
theorem eq_few {a : Ak} {s : Sto} : eqD false a.d (.str "few") s = some (.bl (decide (a = .few)), s) := eq_ak (neg := false) (b := .few)
theorem eq_tru {a : Ak} {s : Sto} : eqD false a.d (.tup [.str "truth"]) s = some (.bl (decide (a = .k .tru)), s) := eq_ak (neg := false) (b := .k .tru)
theorem eq_env {k : Kd} {a : Ak} {s : Sto} : eqD false k.d a.d s = some (.bl (decide (Ak.k k = a)), s) := eq_ak (neg := false) (a := .k k)
def Kd.w : Kd → Str
  | .num => "number" | .tru => "truth" | .row => "row" | .pair => "record" | .fn _ => "fun"
theorem get_w {k : Kd} {s : Sto} : getD (Ak.d (.k k)) (.int 0) s = some (.str k.w, s) := by cases k <;> rfl
theorem eq_lit {a b : Str} {r : Bool} {s : Sto} (ha : SeqAt.shaped (.str a) = true) (hb : SeqAt.shaped (.str b) = true) (h : (a == b) = r) : eqD false (.str a) (.str b) s = some (.bl r, s) := by
  unfold eqD
  show (some (PyData.str a)).bind (fun x => (some (PyData.str b)).bind fun y => _) = _
  rw [Option.bind_some, Option.bind_some, if_pos ⟨ha, hb⟩, eqv_str, h]
  rfl
theorem eq_w1 {k : Kd} {s : Sto} : eqD false (.str k.w) (.str "record") s = some (.bl (match k with | .pair => true | _ => false), s) := by
  cases k with
  | fn n => exact eq_lit (a := "fun") (b := "record") (r := false) (by decide +kernel) (by decide +kernel) (by decide +kernel)
  | _ => exact eq_lit (by decide +kernel) (by decide +kernel) (by decide +kernel)
theorem eq_w2 {k : Kd} {s : Sto} : eqD false (.str k.w) (.str "row") s = some (.bl (match k with | .row => true | _ => false), s) := by
  cases k with
  | fn n => exact eq_lit (a := "fun") (b := "row") (r := false) (by decide +kernel) (by decide +kernel) (by decide +kernel)
  | _ => exact eq_lit (by decide +kernel) (by decide +kernel) (by decide +kernel)
theorem eq_w3 {k : Kd} {s : Sto} : eqD false (.str k.w) (.str "fun") s = some (.bl (match k with | .fn _ => true | _ => false), s) := by
  cases k with
  | fn n => exact eq_lit (a := "fun") (b := "fun") (r := true) (by decide +kernel) (by decide +kernel) (by decide +kernel)
  | _ => exact eq_lit (by decide +kernel) (by decide +kernel) (by decide +kernel)
/-- a list of ints against an empty one -/
theorem pyL_ints {n : Nat} {st : Sto} : ∀ is : List Int, pyL (py (n + 1) st) (is.map .int) = some (is.map .int)
  | [] => rfl
  | i :: is => by
    rw [List.map_cons, List.map_cons]
    unfold pyL
    rw [pyL_ints is]
    rfl
theorem lay_ints : ∀ is : List Int, PyData.canLayAll0 (is.map .int) = true
  | [] => rfl
  | i :: is => by
    rw [List.map_cons]
    unfold PyData.canLayAll0
    rw [lay_ints is]
    rfl
theorem depth_ints : ∀ is : List Int, PyData.depthAll (is.map .int) = 0
  | [] => rfl
  | i :: is => by
    rw [List.map_cons]
    unfold PyData.depthAll
    rw [depth_ints is]
    rfl
theorem shaped_ints (is : List Int) : SeqAt.shaped (.list (is.map .int)) = true := by
  unfold SeqAt.shaped
  rw [Bool.and_eq_true, decide_eq_true_eq]
  refine ⟨by rw [PyData.canLay0]; exact lay_ints is, ?_⟩
  rw [PyData.depth, depth_ints]
  decide
theorem ne_nil {n m : Nat} {is : List Int} {s : Sto} (h : s.get n = some (.lst (is.map .int))) (h2 : s.get m = some (.lst [])) : eqD true (.ref n) (.ref m) s = some (.bl (!is.isEmpty), s) := by
  have e1 : py 64 s (.ref n) = some (.list (is.map .int)) := by
    show (s.seq n).bind (fun xs => (pyL (py 63 s) xs).bind fun ys => some (PyData.list ys)) = _
    rw [seq_get h, Option.bind_some, pyL_ints]
    rfl
  have e2 : py 64 s (.ref m) = some (.list []) := by
    show (s.seq m).bind (fun xs => (pyL (py 63 s) xs).bind fun ys => some (PyData.list ys)) = _
    rw [seq_get h2, Option.bind_some]
    rfl
  unfold eqD
  rw [e1, e2, Option.bind_some, Option.bind_some, if_pos ⟨shaped_ints is, by decide +kernel⟩]
  cases is with
  | nil => rfl
  | cons i is =>
    simp only [List.map_cons, PyData.eqv, PyData.eqvAll]
    rfl
/-! ### comprehensions -/
/-- src goes through xs while the store below m stays -/
def Thru (src : Src) (m : Nat) (s1 : Sto) (xs : List D) : Prop := (∀ s : Sto, (∀ i, i < m → s.get i = s1.get i) → ∀ i, nextD src i s = some xs[i]?) ∧ countD src s1 = some xs.length
theorem thru_lst {n : Nat} {s1 : Sto} {xs : List D} (h : s1.get n = some (.lst xs)) : Thru (.lst n) s1.size s1 xs := by
  refine ⟨fun s hs i => ?_, ?_⟩
  · show (s.seq n).map (fun xs => xs[i]?) = _
    rw [seq_get ((hs n (Sto.get_lt h)).trans h)]
    rfl
  · show (s1.seq n).map List.length = _
    rw [seq_get h]
    rfl
theorem thru_tup {s1 : Sto} {xs : List D} : Thru (.tup xs) s1.size s1 xs := ⟨fun _ _ _ => rfl, rfl⟩
theorem thru_rng {s1 : Sto} {lo : Int} {k : Nat} : Thru (.rng lo k) s1.size s1 ((List.range k).map fun i => .int (lo + (i : Nat))) := by
  refine ⟨fun s hs i => ?_, by show some k = _; simp⟩
  show some (if i < k then some (D.int (lo + (i : Nat))) else none) = _
  congr 1
  rw [List.getElem?_map]
  by_cases h : i < k
  · rw [if_pos h, List.getElem?_range h]; rfl
  · rw [if_neg h, List.getElem?_eq_none (by simpa using h)]; rfl
section
variable {fi : Dn.Env → Sto → Option (Src × Sto)} {g : GM} {tt : M Bool} {te : M D} {vs : List Nat} {env : Dn.Env} {st : Sto} {Q : D → Sto → Prop}
/-- with a state of its own -/
theorem ok_lci (h : Ok (fi env st) fun src s1 => ∃ (xs : List D) (I : Nat → List D → Sto → Prop), countD src s1 = some xs.length ∧ I 0 [] (s1.push (.lst [])) ∧
    (∀ (i : Nat) acc s d, xs[i]? = some d → I i acc s → nextD src i s = some (some d) ∧ ∃ e1, g d (wipeE env vs) s = some (e1, s) ∧ Ok (tt e1 s) fun b s2 => (b = true → Ok (te e1 s2) fun y s3 => s3.get s1.size = some (.lst acc) ∧ acc.length < SZ ∧ I (i + 1) (acc ++ [y]) (s3.set s1.size (.lst (acc ++ [y])))) ∧ (b = false → I (i + 1) acc s2)) ∧
    (∀ acc s, I xs.length acc s → nextD src xs.length s = some none ∧ Q (.ref s1.size) s)) : Ok (lcF fi g tt te vs env st) Q := by
  obtain ⟨src, s1, e1, xs, I, hc, i0, step, stop⟩ := h
  have key : ∀ k i acc s, i + k = xs.length → I i acc s → ∃ acc' s', lcL src g tt te s1.size (wipeE env vs) k i s = some s' ∧ I xs.length acc' s' := by
    intro k
    induction k with
    | zero =>
      intro i acc s hi hI
      have : i = xs.length := by omega
      subst this
      refine ⟨acc, s, ?_, hI⟩
      unfold lcL
      rw [(stop acc s hI).1]
    | succ k ih =>
      intro i acc s hi hI
      have hlt : i < xs.length := by omega
      obtain ⟨hn, e2, hg, b, s2, ht, h1, h2⟩ := step i acc s _ (List.getElem?_eq_getElem hlt) hI
      unfold lcL
      rw [hn]
      simp only [hg, ht]
      cases b with
      | true =>
        obtain ⟨y, s3, he, hs, hz, hI'⟩ := h1 rfl
        simp only [he, hs]
        rw [if_pos hz]
        exact ih (i + 1) _ _ (by omega) hI'
      | false => exact ih (i + 1) _ _ (by omega) (h2 rfl)
  obtain ⟨acc, s, hl, hI⟩ := key xs.length 0 [] _ (by omega) i0
  refine ⟨.ref s1.size, s, ?_, (stop acc s hI).2⟩
  unfold lcF
  rw [e1, Option.bind_some]
  simp only [hc, Option.bind_some, hl, Option.map_some]
/-- nothing else done -/
theorem ok_lcp {ε : Type} {enc : ε → D} {p : ε → Bool} {y : ε → D} (h : Ok (fi env st) fun src s1 => ∃ xs : List ε, Thru src s1.size s1 (xs.map enc) ∧ xs.length ≤ SZ ∧
    (∀ d ∈ xs, ∀ s : Sto, (∀ i, i < s1.size → s.get i = s1.get i) → ∃ e1, g (enc d) (wipeE env vs) s = some (e1, s) ∧ Ok (tt e1 s) fun b s' => s' = s ∧ b = p d ∧ (p d = true → Ok (te e1 s) fun z s' => s' = s ∧ z = y d)) ∧
    Q (.ref s1.size) (s1.push (.lst ((xs.filter p).map y)))) : Ok (lcF fi g tt te vs env st) Q := by
  refine ok_lci (h.imp fun src s1 ⟨xs, ht, hz, hs, hq⟩ => ⟨xs.map enc, fun i acc s => acc = ((xs.take i).filter p).map y ∧ s = s1.push (.lst acc), ht.2, ⟨rfl, rfl⟩, ?_, ?_⟩)
  · rintro i acc s d' hd' ⟨rfl, rfl⟩
    have hag : ∀ (acc : List D) (i : Nat), i < s1.size → (s1.push (.lst acc)).get i = s1.get i := fun acc i hi => Sto.get_push_lt hi
    have hd'' := hd'
    rw [List.getElem?_map] at hd''
    obtain ⟨d, hd, rfl⟩ := mapS hd''
    obtain ⟨e1, hg, b, s2, et, rfl, rfl, he⟩ := hs d (List.mem_of_getElem? hd) _ (hag _)
    obtain ⟨hl, hd2⟩ := List.getElem?_eq_some_iff.mp hd
    have et2 : xs.take (i + 1) = xs.take i ++ [d] := by rw [List.take_add_one, hd]; rfl
    refine ⟨by rw [ht.1 _ (hag _) i, hd'], e1, hg, p d, _, et, fun hp => ?_, fun hp => ?_⟩
    · obtain ⟨z, s3, ez, rfl, rfl⟩ := he hp
      refine ⟨y d, _, ez, Sto.get_push_new, ?_, ?_, ?_⟩
      · rw [List.length_map]
        have h1 := List.length_filter_le p (xs.take i)
        rw [List.length_take] at h1
        omega
      · rw [et2, List.filter_append, List.map_append]
        simp [hp]
      · unfold Sto.set Sto.push Sto.size
        simp
    · refine ⟨?_, rfl⟩
      rw [et2, List.filter_append, List.map_append]
      simp [hp]
  · rintro acc s ⟨rfl, rfl⟩
    rw [List.length_map, List.take_length]
    refine ⟨?_, hq⟩
    rw [ht.1 _ (fun i hi => Sto.get_push_lt hi)]
    simp
theorem oki_seq {f : M D} {Q : Src → Sto → Prop} (h : Ok (f env st) fun d s => (∃ xs, d = .tup xs ∧ Q (.tup xs) s) ∨ ∃ n xs, d = .ref n ∧ s.get n = some (.lst xs) ∧ Q (.lst n) s) : Ok (seqI f env st) Q := by
  obtain ⟨d, s, e, h⟩ := h
  unfold seqI
  rw [e, Option.bind_some]
  rcases h with ⟨xs, rfl, q⟩ | ⟨n, xs, rfl, hn, q⟩
  · exact ok_some.mpr q
  · simp only [seq_get hn, Option.map_some]
    exact ok_some.mpr q
theorem oki_rng1 {f : M D} {Q : Src → Sto → Prop} (h : Ok (f env st) fun d s => ∃ j : Int, d = .int j ∧ -(2 ^ 62) ≤ j ∧ j < 2 ^ 62 ∧ Q (.rng 0 j.toNat) s) : Ok (rng1I f env st) Q := by
  obtain ⟨d, s, e, j, rfl, h1, h2, q⟩ := h
  unfold rng1I
  rw [e, Option.bind_some]
  simp only
  rw [if_pos ⟨h1, h2⟩]
  exact ok_some.mpr q
end
/-! ### how the state grows along one block -/
def irange (a b : Int) : List Int := (List.range (b - a).toNat).map fun i => a + (i : Nat)
theorem irange_nil {a b : Int} (h : b ≤ a) : irange a b = [] := by
  unfold irange
  have : (b - a).toNat = 0 := by omega
  rw [this]; rfl
theorem irange_app {a b c : Int} (h1 : a ≤ b) (h2 : b ≤ c) : irange a b ++ irange b c = irange a c := by
  unfold irange
  have e : (c - a).toNat = (b - a).toNat + (c - b).toNat := by omega
  rw [e, List.range_add, List.map_append, List.map_map]
  congr 1
  refine List.map_congr_left fun i _ => ?_
  show b + (i : Int) = a + (((b - a).toNat + i : Nat) : Int)
  omega
theorem irange_one {a : Int} : irange a (a + 1) = [a] := by
  unfold irange
  have : (a + 1 - a).toNat = 1 := by omega
  rw [this]
  simp [List.range_succ]
theorem irange_mem {a b x : Int} : x ∈ irange a b ↔ a ≤ x ∧ x < b := by
  unfold irange
  rw [List.mem_map]
  constructor
  · rintro ⟨i, hi, rfl⟩
    rw [List.mem_range] at hi
    omega
  · rintro ⟨h1, h2⟩
    exact ⟨(x - a).toNat, List.mem_range.mpr (by omega), by omega⟩
structure Gr (n : Int) (g g' : Gs) : Prop where
  B : g'.B = g.B
  R : g'.R = g.R
  E : g'.E = g.E
  Pa : g'.Pa = g.Pa
  now : g'.now = g.now
  bu : g'.bu = g.bu
  bl : g'.bl = g.bl
  pr : g'.pr = g.pr
  rows : ∃ more, g'.rs = g.rs ++ more ∧ more.filterMap (·.x) = irange g.nx g'.nx ∧ (∀ r ∈ more, (∀ a ∈ r.args, 0 ≤ a ∧ a < g'.nx) ∧ r.args.length ≤ SZ) ∧ (more.length : Int) ≤ g'.ln - g.ln
  env : ∃ me, g'.en = g.en ++ me ∧ (∀ e ∈ me, 0 ≤ e.1 ∧ e.1 < g'.nx) ∧ (me.length : Int) ≤ g'.nx - g.nx
  nx : g.nx ≤ g'.nx ∧ g'.nx ≤ g.nx + n
  ln : g.ln ≤ g'.ln ∧ g'.ln ≤ g.ln + n
structure GE (g : Gs) : Prop where
  en : ∀ e ∈ g.en, 0 ≤ e.1 ∧ e.1 < g.nx
  nx : 0 ≤ g.nx
  ln : 0 ≤ g.ln
  rl : (g.rs.length : Int) ≤ g.ln
  el : (g.en.length : Int) ≤ g.nx
  bw : ∀ b, some b ∈ g.bl → (b.rows.length : Int) ≤ g.ln
theorem Gr.refl {g : Gs} : Gr 0 g g := ⟨rfl, rfl, rfl, rfl, rfl, rfl, rfl, rfl, ⟨[], by simp, by rw [irange_nil (Int.le_refl _)]; rfl, by simp, by simp⟩, ⟨[], by simp, by simp, by simp⟩, by omega, by omega⟩
theorem Gr.mono {n m : Int} {g g' : Gs} (h : Gr n g g') (l : n ≤ m) : Gr m g g' := ⟨h.B, h.R, h.E, h.Pa, h.now, h.bu, h.bl, h.pr, h.rows, h.env, ⟨h.nx.1, by have := h.nx.2; omega⟩, ⟨h.ln.1, by have := h.ln.2; omega⟩⟩
theorem Gr.trans {n m : Int} {g g1 g2 : Gs} (a : Gr n g g1) (b : Gr m g1 g2) : Gr (n + m) g g2 := by
  obtain ⟨m1, r1, r2, r3, r4⟩ := a.rows
  obtain ⟨m2, q1, q2, q3, q4⟩ := b.rows
  obtain ⟨e1, f1, f2, f3⟩ := a.env
  obtain ⟨e2, k1, k2, k3⟩ := b.env
  have n1 := a.nx
  have n2 := b.nx
  have l1 := a.ln
  have l2 := b.ln
  refine ⟨b.B.trans a.B, b.R.trans a.R, b.E.trans a.E, b.Pa.trans a.Pa, b.now.trans a.now, b.bu.trans a.bu, b.bl.trans a.bl, b.pr.trans a.pr, ⟨m1 ++ m2, ?_, ?_, ?_, ?_⟩, ⟨e1 ++ e2, ?_, ?_, ?_⟩, by omega, by omega⟩
  · rw [q1, r1, List.append_assoc]
  · rw [List.filterMap_append, r2, q2, irange_app n1.1 n2.1]
  · intro r hr
    rcases List.mem_append.mp hr with hr | hr
    · exact ⟨fun x hx => by have := (r3 r hr).1 x hx; omega, (r3 r hr).2⟩
    · exact q3 r hr
  · rw [List.length_append]; omega
  · rw [k1, f1, List.append_assoc]
  · intro e he
    rcases List.mem_append.mp he with he | he
    · have := f2 e he; omega
    · exact k2 e he
  · rw [List.length_append]; omega
theorem GE.gr {n : Int} {g g' : Gs} (h : GE g) (r : Gr n g g') : GE g' := by
  obtain ⟨m1, r1, r2, r3, r4⟩ := r.rows
  obtain ⟨e1, f1, f2, f3⟩ := r.env
  have n1 := r.nx
  have l1 := r.ln
  have h1 := h.nx
  have h2 := h.ln
  have h3 := h.rl
  have h4 := h.el
  refine ⟨fun e he => ?_, by omega, by omega, by rw [r1, List.length_append]; omega, by rw [f1, List.length_append]; omega, fun b hb => by rw [r.bl] at hb; have := h.bw b hb; omega⟩
  rw [f1] at he
  rcases List.mem_append.mp he with he | he
  · have := h.en e he; omega
  · exact f2 e he
theorem Gr.put {g : Gs} {kd : Option Kd} {op : Str} {as : List Int} {more : D} (h : GE g) (ha : ∀ a ∈ as, 0 ≤ a ∧ a < g.nx) (hz : as.length ≤ SZ) : Gr 1 g (g.put kd op as more) := by
  have h1 := h.nx
  cases kd with
  | none =>
    refine ⟨rfl, rfl, rfl, rfl, rfl, rfl, rfl, rfl, ⟨_, rfl, ?_, ?_, ?_⟩, ⟨[], ?_, by simp, ?_⟩, ?_, ?_⟩
    · show _ = irange g.nx g.nx
      rw [irange_nil (Int.le_refl _)]; rfl
    · intro r hr
      simp only [List.mem_cons, List.not_mem_nil, or_false] at hr
      subst hr
      exact ⟨ha, hz⟩
    · show (1 : Int) ≤ g.ln + 1 - g.ln; omega
    · show g.en = _; simp
    · show (0 : Int) ≤ g.nx - g.nx; omega
    · show g.nx ≤ g.nx ∧ g.nx ≤ g.nx + 1; omega
    · show g.ln ≤ g.ln + 1 ∧ g.ln + 1 ≤ g.ln + 1; omega
  | some k =>
    refine ⟨rfl, rfl, rfl, rfl, rfl, rfl, rfl, rfl, ⟨_, rfl, ?_, ?_, ?_⟩, ⟨_, rfl, ?_, ?_⟩, ?_, ?_⟩
    · show _ = irange g.nx (g.nx + 1)
      rw [irange_one]; rfl
    · intro r hr
      simp only [List.mem_cons, List.not_mem_nil, or_false] at hr
      subst hr
      refine ⟨fun a q => ?_, hz⟩
      have := ha a q
      show 0 ≤ a ∧ a < g.nx + 1
      omega
    · show (1 : Int) ≤ g.ln + 1 - g.ln; omega
    · intro e he
      simp only [List.mem_cons, List.not_mem_nil, or_false] at he
      subst he
      show 0 ≤ g.nx ∧ g.nx < g.nx + 1
      omega
    · show (1 : Int) ≤ g.nx + 1 - g.nx; omega
    · show g.nx ≤ g.nx + 1 ∧ g.nx + 1 ≤ g.nx + 1; omega
    · show g.ln ≤ g.ln + 1 ∧ g.ln + 1 ≤ g.ln + 1; omega
end Mw
/-! A name of a kind. -/
namespace Mw
open PySem PySem.Spec PyProof.Rows L2 Dn
section
variable {c : Fx} {g g' : Gs} {st s : Sto} {k : Nat}
theorem takeA {n : Int} (h : At c g st) (h1 : 1 ≤ n) (h2 : n < 1073741824) {G : D → Sto → Prop} (hG : ∀ s (i : Int), 0 ≤ i → i < n → At c g s → Fm [c.P] st s → s.size = st.size → G (.int i) s) : Ok (Hd.runs (k + 2) 11 [.ref c.P, .int n] st) G :=
  (take_ok h.P h1 h2).imp fun d s ⟨i, e, i0, i1, hp, f⟩ => by
    subst e
    exact hG s i i0 i1 (h.take f hp) (f.fm (by simp)) f.size
/-- what is asked of a kind -/
def AOk (c : Fx) : Ak → Prop
  | .k (.fn n) => ∃ x ∈ c.calls, x.2.1 - x.2.2 = n
  | _ => True
/-- what is known of the fixed things -/
structure FxOk (c : Fx) : Prop where
  fi : ∀ k ∈ c.fi, k = .num ∨ k = .tru
  fl : c.fi.length ≤ 8
  ca : ∀ x ∈ c.calls, 1 ≤ x.2.1 ∧ x.2.1 ≤ 9 ∧ 0 ≤ x.2.2 ∧ x.2.2 ≤ x.2.1
  cl : c.calls.length ≤ 7
/-- the sizes in which all runs -/
def Lim (n : Int) (g : Gs) : Prop := g.nx + n ≤ 8000000 ∧ g.ln + n ≤ 8000000
theorem Lim.gr {n m : Int} {g g' : Gs} (h : Lim (n + m) g) (r : Gr n g g') : Lim m g' := by
  have := r.nx
  have := r.ln
  unfold Lim at *
  omega
theorem Lim.mono {n m : Int} {g : Gs} (h : Lim n g) (l : m ≤ n) : Lim m g := by
  unfold Lim at *
  omega
theorem Lim.put {n : Int} {g : Gs} (h : Lim n g) (hE : GE g) (h1 : 1 ≤ n) : g.rs.length < SZ ∧ g.en.length < SZ := by
  have := hE.rl
  have := hE.el
  unfold Lim at h
  have : SZ = 16777216 := by decide
  omega
/-- a number that is put -/
theorem put1 {kd : Option Kd} {op : Str} {a more : D} {xs : List Int} {n : Int} (h : At c g st) (hE : GE g) (hL : Lim n g) (h1 : 1 ≤ n) (ha : (a = .tup (xs.map .int)) ∨ ∃ n, a = .ref n ∧ st.get n = some (.lst (xs.map .int)) ∧ n ≠ g.E ∧ n ≠ g.R)
    (hx : ∀ a ∈ xs, 0 ≤ a ∧ a < g.nx) {G : D → Sto → Prop} (hG : ∀ s g', At c g' s → Gr 1 g g' → g' = g.put kd op xs more → Fm [c.S, c.P, g.R, g.E] st s → s.size = st.size → G (match kd with | none => .non | some _ => .int g.nx) s) (hz : xs.length ≤ SZ := by (simp only [List.length_cons, List.length_nil]; decide)) : Ok (Hd.runs (k + 1) 13 [.ref c.S, oK kd, .str op, a, more] st) G :=
  put_ok h ha (hL.put hE h1).1 (hL.put hE h1).2 fun s q1 q2 q3 => hG s _ q1 (Gr.put hE hx hz) rfl ⟨q2.le, fun i hi hw => q2.get i hi fun hq => hw (by simp only [List.mem_cons, List.not_mem_nil, or_false] at hq ⊢; rcases hq with r | r | r <;> simp [r])⟩ q3
/-- the promise of name -/
def NameOk (k : Nat) (n : Int) (a : Ak) : Prop := ∀ {c : Fx} {g : Gs} {st : Sto} {G : D → Sto → Prop}, FxOk c → AOk c a → At c g st → GE g → Lim n g →
  (∀ s g' (x : Int), At c g' s → Gr n g g' → 0 ≤ x → x < g'.nx → Fm [c.S, c.P, g.R, g.E] st s → G (.int x) s) → Ok (Hd.runs k 14 [.ref c.S, .ref c.P, a.d] st) G
theorem Fm.mono {W V : List Nat} {s s' : Sto} (f : Fm W s s') (h : ∀ i ∈ W, i ∈ V) : Fm V s s' := ⟨f.le, fun i hi hw => f.get i hi fun q => hw (h i q)⟩
theorem At.new (h : At c g st) {n : Nat} (hn : st.size ≤ n) : n ≠ c.S ∧ n ≠ g.B ∧ n ≠ g.R ∧ n ≠ g.E ∧ n ≠ g.Pa ∧ n ≠ c.C ∧ n ≠ c.P ∧ n ≠ c.Cl := by
  have a1 := Sto.get_lt h.S
  have a2 := Sto.get_lt h.B
  have a3 := Sto.get_lt h.R
  have a4 := Sto.get_lt h.E
  have a5 := Sto.get_lt h.Pa
  have a6 := Sto.get_lt h.C
  obtain ⟨a, l, m, mx, p1, _, _, _, p2⟩ := h.P
  have a7 := Sto.get_lt p1
  have a8 := Sto.get_lt p2
  refine ⟨?_, ?_, ?_, ?_, ?_, ?_, ?_, ?_⟩ <;> omega
/-- an object that the state does not know is written -/
theorem At.setN (h : At c g s) {n : Nat} {o : O} (hn : n ≠ c.S ∧ n ≠ g.B ∧ n ≠ g.R ∧ n ≠ g.E ∧ n ≠ g.Pa ∧ n ≠ c.C ∧ n ≠ c.P ∧ n ≠ c.Cl) : At c g (s.set n o) := by
  obtain ⟨a1, a2, a3, a4, a5, a6, a7, a8⟩ := hn
  refine h.fm (W := [n]) (Fm.set (.inl (by simp))) (fun i q => ?_) (h.P.of (Sto.get_set_ne (Ne.symm a7)) (Sto.get_set_ne (Ne.symm a8)))
  simp only [List.mem_cons, List.not_mem_nil, or_false] at q
  subst q
  exact ⟨a1, a2, a3, a4, a5, a6⟩
def Pure (src : Src) (xs : List D) : Prop := (∀ s i, nextD src i s = some xs[i]?) ∧ ∀ s, countD src s = some xs.length
theorem pure_tup {xs : List D} : Pure (.tup xs) xs := ⟨fun _ _ => rfl, fun _ => rfl⟩
theorem pure_rng {lo : Int} {k : Nat} : Pure (.rng lo k) ((List.range k).map fun i => .int (lo + (i : Nat))) := by
  refine ⟨fun s i => ?_, fun s => by show some k = _; simp⟩
  show some (if i < k then some (D.int (lo + (i : Nat))) else none) = _
  congr 1
  rw [List.getElem?_map]
  by_cases h : i < k
  · rw [if_pos h, List.getElem?_range h]; rfl
  · rw [if_neg h, List.getElem?_eq_none (by simpa using h)]; rfl
theorem getS_eq {n : Nat} {kvs : List (Key × D)} {key : Str} {d : D} {env : Dn.Env} {s : Sto} (h : s.get n = some (.dic kvs)) (hk : kGet kvs (.inr key) = some d) : opF getD (varF 0) (cF (.str key)) (some (.ref n) :: env) s = some (d, s) := by
  show getD (.ref n) (.str key) s = _
  rw [get_rs, h]
  simp only [hk, Option.map_some]
/-- [name(state, pot, kind) for ..] -/
theorem names_lc {fi : Dn.Env → Sto → Option (Src × Sto)} {gg : GM} {tt : M Bool} {te : M D} {vs : List Nat} {env : Dn.Env} {Q : D → Sto → Prop} {m : Int} {bs : List Ak} (hF : FxOk c) (h : At c g st) (hE : GE g) (hm : 0 ≤ m) (hL : Lim (m * bs.length) g) (hz : bs.length < SZ) (hb : ∀ b ∈ bs, AOk c b ∧ NameOk k m b)
    (hfi : ∃ src xs, fi env st = some (src, st) ∧ xs.length = bs.length ∧ Pure src xs ∧ ∀ (i : Nat) x b, xs[i]? = some x → bs[i]? = some b → ∀ s, ∃ e1, gg x (wipeE env vs) s = some (e1, s) ∧ tt e1 s = some (true, s) ∧ ∀ Q, Ok (Hd.runs k 14 [.ref c.S, .ref c.P, b.d] s) Q → Ok (te e1 s) Q)
    (hG : ∀ s g' (is : List Int), At c g' s → Gr (m * bs.length) g g' → is.length = bs.length → (∀ x ∈ is, 0 ≤ x ∧ x < g'.nx) → s.get st.size = some (.lst (is.map .int)) → Fm [c.S, c.P, g.R, g.E] st s → Q (.ref st.size) s) : Ok (lcF fi gg tt te vs env st) Q := by
  obtain ⟨src, xs, e, hl, hp, hstep⟩ := hfi
  have hn := h.new (n := st.size) (Nat.le_refl _)
  have hnW : st.size ∉ [c.S, c.P, g.R, g.E] := by
    simp only [List.mem_cons, List.not_mem_nil, or_false, not_or]
    exact ⟨hn.1, hn.2.2.2.2.2.2.1, hn.2.2.1, hn.2.2.2.1⟩
  refine ok_lci ⟨src, st, e, xs, fun i acc s => ∃ g' is, acc = List.map D.int is ∧ is.length = i ∧ i ≤ bs.length ∧ At c g' s ∧ Gr (m * i) g g' ∧ (∀ x ∈ is, 0 ≤ x ∧ x < g'.nx) ∧ s.get st.size = some (.lst acc) ∧ Fm [c.S, c.P, g.R, g.E] st s, hp.2 st, ⟨g, [], rfl, rfl, Nat.zero_le _, h.push, by simpa using Gr.refl, by simp, Sto.get_push_new, Fm.push⟩, ?_, ?_⟩
  · rintro i acc s d hd ⟨g', is, rfl, hi, hle, hA, hg, hx, hq, hf⟩
    have hlt : i < bs.length := by
      have := (List.getElem?_eq_some_iff.mp hd).1
      omega
    have hbi : bs[i]? = some bs[i] := List.getElem?_eq_getElem hlt
    obtain ⟨e1, h1, h2, h3⟩ := hstep i d _ hd hbi s
    refine ⟨by rw [hp.1, hd], e1, h1, true, s, h2, fun _ => h3 _ ?_, fun q => by cases q⟩
    have hbo := hb _ (List.mem_of_getElem? hbi)
    have e2 : m * (bs.length : Int) = m * (i : Int) + m * ((bs.length - i : Nat) : Int) := by
      rw [← Int.mul_add]
      congr 1
      omega
    have e3 : m ≤ m * ((bs.length - i : Nat) : Int) := by
      have : (1 : Int) ≤ ((bs.length - i : Nat) : Int) := by omega
      calc m = m * 1 := by omega
        _ ≤ _ := Int.mul_le_mul_of_nonneg_left this hm
    have hL2 : Lim m g' := (Lim.gr (by rw [← e2]; exact hL) hg).mono e3
    refine hbo.2 hF hbo.1 hA (hE.gr hg) hL2 fun s' g2 x hA2 hg2 x0 x1 hf2 => ?_
    have hn' : st.size ≠ c.S ∧ st.size ≠ g2.B ∧ st.size ≠ g2.R ∧ st.size ≠ g2.E ∧ st.size ≠ g2.Pa ∧ st.size ≠ c.C ∧ st.size ≠ c.P ∧ st.size ≠ c.Cl := by
      rw [hg2.B, hg2.R, hg2.E, hg2.Pa, hg.B, hg.R, hg.E, hg.Pa]; exact hn
    have hq' : s'.get st.size = some (.lst (is.map .int)) := hf2.keep hq (by rw [hg.R, hg.E]; exact hnW)
    have e4 : m * ((i + 1 : Nat) : Int) = m * (i : Int) + m := by
      have : ((i + 1 : Nat) : Int) = (i : Int) + 1 := by omega
      rw [this, Int.mul_add, Int.mul_one]
    refine ⟨hq', by rw [List.length_map]; omega, g2, is ++ [x], by simp, by simp [hi], hlt, hA2.setN hn', by rw [e4]; exact hg.trans hg2, fun y hy => ?_, Sto.get_set_same (Sto.get_lt hq'), ?_⟩
    · rcases List.mem_append.mp hy with hy | hy
      · have := hx y hy
        have := hg2.nx
        omega
      · simp only [List.mem_cons, List.not_mem_nil, or_false] at hy
        subst hy
        exact ⟨x0, x1⟩
    · refine (hf.trans hf2 fun i q => .inl (by rw [hg.R, hg.E] at q; exact q)).trans (Fm.set (W := [st.size]) (.inl (by simp))) fun i q => .inr ?_
      simp only [List.mem_cons, List.not_mem_nil, or_false] at q
      omega
  · rintro acc s ⟨g', is, rfl, hi, hle, hA, hg, hx, hq, hf⟩
    refine ⟨by rw [hp.1]; simp, ?_⟩
    rw [hl] at hi hg
    exact hG s g' is hA hg hi hx hq hf
def Ak.base (a : Ak) : Prop := a = .few ∨ a = .k .num ∨ a = .k .tru
theorem name_step {n : Int} {a : Ak} (hn : 1 ≤ n) (hr : a.base ∨ (n = 10 ∧ ∀ b : Ak, b.base → NameOk (k + 2) 1 b)) : NameOk (k + 3) n a := by
  intro c g st G hF hA h hE hL hG
  show Ok (bodyD _ (Hd.b__law_name (Hd.runs (k + 2))) _ st) G
  refine ok_body ?_
  unfold Hd.b__law_name
  simp only [List.map_cons, List.map_nil, List.length_cons, List.length_nil, List.cons_append, List.nil_append, List.replicate, List.set_cons_zero, List.set_cons_succ, seq_set, seq_ret, seq_expr, seq_next, seq_if, seq_asg, seq_seq, seq_cnt, oks_set, oks_ret, oks_expr, oks_next, oks_cnt, oks_if', oks_asg, ok_op, ok_un, ok_c, ok_nil, ok_cons, ok_tup, ok_lst, ok_var0, ok_varS, ok_call, ok_tst, ok_and, ok_or, ok_not, ok_meth, ok_bind, ok_some, ok_ite, ok_mapv, add_ii, add_tt, add_rr, sub_ii, mul_ii, mul_ti, mul_ri, mod_ii, fdiv_ii, pow_ii, lt_ii, get_ti, get_ri, get_rs, len_t, len_r, abs_i, int_b, list_t, list_r, tuple_t, tuple_r, dict_r, is_n, in_t, in_r, addI_ii, subI_ii, min_ii, append_r, key_i, key_s, eq_int, D.bl.injEq, exists_eq_left, exists_eq_left', exists_eq_right, exists_eq_right', exists_eq', Option.some.injEq, decide_eq_true_eq, decide_eq_false_iff_not, Bool.false_eq_true, if_false, if_true, reduceCtorEq, false_implies, true_implies, true_and, and_true, forall_const, imp_self, Bool.not_true, Bool.not_false, Bool.not_eq_true', Bool.not_eq_false', not_true_eq_false, not_false_eq_true, not_true_eq_false, not_false_eq_true, at_lit0, at_lit1, at_lit2, at_lit3, at_lit4, at_lit5, List.length_replicate]
  refine ⟨by decide, ok_lcp (ε := Int × Kd) (enc := pD) (p := fun e => decide (Ak.k e.2 = a)) (y := fun e => .int e.1) (oki_seq ?_)⟩
  simp only [ok_op, ok_var0, ok_c, get_rs, h.S, st_env, Option.map_some, ok_some]
  have sz : SZ = 16777216 := by decide
  have hel := hE.el
  have hl2 := hL.1
  refine .inr ⟨_, _, rfl, h.E, g.en, thru_lst h.E, by omega, fun e _ s _ => ⟨_, rfl, ?_⟩, ?_⟩
  · simp only [List.map_cons, List.map_nil, List.length_cons, List.length_nil, List.cons_append, List.nil_append, List.replicate, List.set_cons_zero, List.set_cons_succ, seq_set, seq_ret, seq_expr, seq_next, seq_if, seq_asg, seq_seq, seq_cnt, oks_set, oks_ret, oks_expr, oks_next, oks_cnt, oks_if', oks_asg, ok_op, ok_un, ok_c, ok_nil, ok_cons, ok_tup, ok_lst, ok_var0, ok_varS, ok_call, ok_tst, ok_and, ok_or, ok_not, ok_meth, ok_bind, ok_some, ok_ite, ok_mapv, add_ii, add_tt, add_rr, sub_ii, mul_ii, mul_ti, mul_ri, mod_ii, fdiv_ii, pow_ii, lt_ii, get_ti, get_ri, get_rs, len_t, len_r, abs_i, int_b, list_t, list_r, tuple_t, tuple_r, dict_r, is_n, in_t, in_r, addI_ii, subI_ii, min_ii, append_r, key_i, key_s, eq_int, D.bl.injEq, exists_eq_left, exists_eq_left', exists_eq_right, exists_eq_right', exists_eq', Option.some.injEq, decide_eq_true_eq, decide_eq_false_iff_not, Bool.false_eq_true, if_false, if_true, reduceCtorEq, false_implies, true_implies, true_and, and_true, forall_const, imp_self, Bool.not_true, Bool.not_false, Bool.not_eq_true', Bool.not_eq_false', not_true_eq_false, not_false_eq_true, not_true_eq_false, not_false_eq_true, at_lit0, at_lit1, at_lit2, at_lit3, at_lit4, at_lit5, List.length_replicate, nameG, wipeE, eq_env]
    simp
  have eL : (g.en.filter fun e => decide (Ak.k e.2 = a)).map (fun e => D.int e.1) = ((g.en.filter fun e => decide (Ak.k e.2 = a)).map (·.1)).map .int := by rw [List.map_map]; rfl
  rw [eL]
  generalize his : (g.en.filter fun e => decide (Ak.k e.2 = a)).map (·.1) = is
  have hin : ∀ x ∈ is, 0 ≤ x ∧ x < g.nx := fun x hx => by
    rw [← his] at hx
    obtain ⟨e, he, rfl⟩ := List.mem_map.mp hx
    exact hE.en e (List.mem_filter.mp he).1
  have hil : is.length ≤ g.en.length := by rw [← his, List.length_map]; exact List.length_filter_le _ _
  generalize hs1 : st.push (.lst (is.map .int)) = s1
  have z1 : s1.size = st.size + 1 := by rw [← hs1, Sto.size_push]
  have A1 : At c g s1 := by rw [← hs1]; exact h.push
  have q1 : s1.get st.size = some (.lst (is.map .int)) := by rw [← hs1]; exact Sto.get_push_new
  have f1 : Fm [] st s1 := by rw [← hs1]; exact Fm.push
  generalize hs2 : s1.push (.lst []) = s2
  have z2 : s2.size = s1.size + 1 := by rw [← hs2, Sto.size_push]
  have A2 : At c g s2 := by rw [← hs2]; exact A1.push
  have q2 : s2.get st.size = some (.lst (is.map .int)) := by rw [← hs2, Sto.get_push_lt (by omega)]; exact q1
  have q3 : s2.get s1.size = some (.lst []) := by rw [← hs2]; exact Sto.get_push_new
  have f2 : Fm [] st s2 := f1.trans (by rw [← hs2]; exact Fm.push (W := [])) fun i q => .inl q
  rw [ne_nil q2 q3]
  simp only [ok_some]
  refine ⟨by decide, _, rfl, fun hne => ?_, fun he => ?_⟩
  · -- one of those that are there
    have hpos : 0 < is.length := by
      cases is with
      | nil => simp at hne
      | cons x r => simp
    simp only [List.map_cons, List.map_nil, List.length_cons, List.length_nil, List.cons_append, List.nil_append, List.replicate, List.set_cons_zero, List.set_cons_succ, seq_set, seq_ret, seq_expr, seq_next, seq_if, seq_asg, seq_seq, seq_cnt, oks_set, oks_ret, oks_expr, oks_next, oks_cnt, oks_if', oks_asg, ok_op, ok_un, ok_c, ok_nil, ok_cons, ok_tup, ok_lst, ok_var0, ok_varS, ok_call, ok_tst, ok_and, ok_or, ok_not, ok_meth, ok_bind, ok_some, ok_ite, ok_mapv, add_ii, add_tt, add_rr, sub_ii, mul_ii, mul_ti, mul_ri, mod_ii, fdiv_ii, pow_ii, lt_ii, get_ti, get_ri, get_rs, len_t, len_r, abs_i, int_b, list_t, list_r, tuple_t, tuple_r, dict_r, is_n, in_t, in_r, addI_ii, subI_ii, min_ii, append_r, key_i, key_s, eq_int, D.bl.injEq, exists_eq_left, exists_eq_left', exists_eq_right, exists_eq_right', exists_eq', Option.some.injEq, decide_eq_true_eq, decide_eq_false_iff_not, Bool.false_eq_true, if_false, if_true, reduceCtorEq, false_implies, true_implies, true_and, and_true, forall_const, imp_self, Bool.not_true, Bool.not_false, Bool.not_eq_true', Bool.not_eq_false', not_true_eq_false, not_false_eq_true, not_true_eq_false, not_false_eq_true, at_lit0, at_lit1, at_lit2, at_lit3, at_lit4, at_lit5, List.length_replicate, q2, List.length_map]
    refine takeA A2 (by omega) (by omega) fun s i i0 i1 hA' f z => ?_
    simp only [List.map_cons, List.map_nil, List.length_cons, List.length_nil, List.cons_append, List.nil_append, List.replicate, List.set_cons_zero, List.set_cons_succ, seq_set, seq_ret, seq_expr, seq_next, seq_if, seq_asg, seq_seq, seq_cnt, oks_set, oks_ret, oks_expr, oks_next, oks_cnt, oks_if', oks_asg, ok_op, ok_un, ok_c, ok_nil, ok_cons, ok_tup, ok_lst, ok_var0, ok_varS, ok_call, ok_tst, ok_and, ok_or, ok_not, ok_meth, ok_bind, ok_some, ok_ite, ok_mapv, add_ii, add_tt, add_rr, sub_ii, mul_ii, mul_ti, mul_ri, mod_ii, fdiv_ii, pow_ii, lt_ii, get_ti, get_ri, get_rs, len_t, len_r, abs_i, int_b, list_t, list_r, tuple_t, tuple_r, dict_r, is_n, in_t, in_r, addI_ii, subI_ii, min_ii, append_r, key_i, key_s, eq_int, D.bl.injEq, exists_eq_left, exists_eq_left', exists_eq_right, exists_eq_right', exists_eq', Option.some.injEq, decide_eq_true_eq, decide_eq_false_iff_not, Bool.false_eq_true, if_false, if_true, reduceCtorEq, false_implies, true_implies, true_and, and_true, forall_const, imp_self, Bool.not_true, Bool.not_false, Bool.not_eq_true', Bool.not_eq_false', not_true_eq_false, not_false_eq_true, not_true_eq_false, not_false_eq_true, at_lit0, at_lit1, at_lit2, at_lit3, at_lit4, at_lit5, List.length_replicate]
    have q4 : s.get st.size = some (.lst (is.map .int)) := f.keep q2 (by
      simp only [List.mem_cons, List.not_mem_nil, or_false]
      exact A2.P.ne q2)
    obtain ⟨x, hx, hx2⟩ := atI_ge (xs := is.map D.int) (i := is.length - 1 - i) (by omega) (by rw [List.length_map]; omega)
    rw [List.getElem?_map] at hx2
    obtain ⟨y, hy, rfl⟩ := mapS hx2
    simp only [List.map_cons, List.map_nil, List.length_cons, List.length_nil, List.cons_append, List.nil_append, List.replicate, List.set_cons_zero, List.set_cons_succ, seq_set, seq_ret, seq_expr, seq_next, seq_if, seq_asg, seq_seq, seq_cnt, oks_set, oks_ret, oks_expr, oks_next, oks_cnt, oks_if', oks_asg, ok_op, ok_un, ok_c, ok_nil, ok_cons, ok_tup, ok_lst, ok_var0, ok_varS, ok_call, ok_tst, ok_and, ok_or, ok_not, ok_meth, ok_bind, ok_some, ok_ite, ok_mapv, add_ii, add_tt, add_rr, sub_ii, mul_ii, mul_ti, mul_ri, mod_ii, fdiv_ii, pow_ii, lt_ii, get_ti, get_ri, get_rs, len_t, len_r, abs_i, int_b, list_t, list_r, tuple_t, tuple_r, dict_r, is_n, in_t, in_r, addI_ii, subI_ii, min_ii, append_r, key_i, key_s, eq_int, D.bl.injEq, exists_eq_left, exists_eq_left', exists_eq_right, exists_eq_right', exists_eq', Option.some.injEq, decide_eq_true_eq, decide_eq_false_iff_not, Bool.false_eq_true, if_false, if_true, reduceCtorEq, false_implies, true_implies, true_and, and_true, forall_const, imp_self, Bool.not_true, Bool.not_false, Bool.not_eq_true', Bool.not_eq_false', not_true_eq_false, not_false_eq_true, not_true_eq_false, not_false_eq_true, at_lit0, at_lit1, at_lit2, at_lit3, at_lit4, at_lit5, List.length_replicate, q4]
    refine ⟨_, hx, ?_⟩
    have hy2 := hin y (List.mem_of_getElem? hy)
    refine hG s g y hA' (Gr.refl.mono (by omega)) hy2.1 hy2.2 ?_
    exact (f2.mono (fun i q => by cases q)).trans f fun i q => .inl (by
      simp only [List.mem_cons, List.not_mem_nil, or_false] at q ⊢
      simp [q])
  · -- a new one
    have f2' : Fm [c.S, c.P, g.R, g.E] st s2 := f2.mono (fun i q => by cases q)
    have fP : ∀ {s : Sto}, Fm [c.P] s2 s → Fm [c.S, c.P, g.R, g.E] st s := fun f => f2'.trans f fun i q => .inl (by
      simp only [List.mem_cons, List.not_mem_nil, or_false] at q ⊢
      simp [q])
    have sz1 : 0 + 1 ≤ SZ := by decide
    have sz0 : 0 ≤ SZ := by decide
    have up : ∀ {s : Sto} {g' : Gs}, Fm [c.S, c.P, g.R, g.E] st s → ∀ {s' : Sto}, Fm [c.S, c.P, g.R, g.E] s s' → Fm [c.S, c.P, g.R, g.E] st s' := fun f _ f' => f.trans f' fun i q => .inl q
    cases a with
    | few =>
      simp only [List.map_cons, List.map_nil, List.length_cons, List.length_nil, List.cons_append, List.nil_append, List.replicate, List.set_cons_zero, List.set_cons_succ, seq_set, seq_ret, seq_expr, seq_next, seq_if, seq_asg, seq_seq, seq_cnt, oks_set, oks_ret, oks_expr, oks_next, oks_cnt, oks_if', oks_asg, ok_op, ok_un, ok_c, ok_nil, ok_cons, ok_tup, ok_lst, ok_var0, ok_varS, ok_call, ok_tst, ok_and, ok_or, ok_not, ok_meth, ok_bind, ok_some, ok_ite, ok_mapv, add_ii, add_tt, add_rr, sub_ii, mul_ii, mul_ti, mul_ri, mod_ii, fdiv_ii, pow_ii, lt_ii, get_ti, get_ri, get_rs, len_t, len_r, abs_i, int_b, list_t, list_r, tuple_t, tuple_r, dict_r, is_n, in_t, in_r, addI_ii, subI_ii, min_ii, append_r, key_i, key_s, eq_int, D.bl.injEq, exists_eq_left, exists_eq_left', exists_eq_right, exists_eq_right', exists_eq', Option.some.injEq, decide_eq_true_eq, decide_eq_false_iff_not, Bool.false_eq_true, if_false, if_true, reduceCtorEq, false_implies, true_implies, true_and, and_true, forall_const, imp_self, Bool.not_true, Bool.not_false, Bool.not_eq_true', Bool.not_eq_false', not_true_eq_false, not_false_eq_true, not_true_eq_false, not_false_eq_true, at_lit0, at_lit1, at_lit2, at_lit3, at_lit4, at_lit5, List.length_replicate, eq_few, sz0, sz1]
      refine takeA A2 (by omega) (by omega) fun s i i0 i1 hA' f z => ?_
      refine put1 (kd := some .num) (xs := []) hA' hE (hL.mono hn) (Int.le_refl 1) (.inl rfl) (by simp) fun s' g' hA2 hg' eg hf' z' => ?_
      subst eg
      exact hG s' _ g.nx hA2 (hg'.mono hn) hE.nx (by show g.nx < g.nx + 1; omega) ((fP f).trans hf' fun i q => .inl q)
    | k kd =>
      cases kd with
      | num =>
        simp only [List.map_cons, List.map_nil, List.length_cons, List.length_nil, List.cons_append, List.nil_append, List.replicate, List.set_cons_zero, List.set_cons_succ, seq_set, seq_ret, seq_expr, seq_next, seq_if, seq_asg, seq_seq, seq_cnt, oks_set, oks_ret, oks_expr, oks_next, oks_cnt, oks_if', oks_asg, ok_op, ok_un, ok_c, ok_nil, ok_cons, ok_tup, ok_lst, ok_var0, ok_varS, ok_call, ok_tst, ok_and, ok_or, ok_not, ok_meth, ok_bind, ok_some, ok_ite, ok_mapv, add_ii, add_tt, add_rr, sub_ii, mul_ii, mul_ti, mul_ri, mod_ii, fdiv_ii, pow_ii, lt_ii, get_ti, get_ri, get_rs, len_t, len_r, abs_i, int_b, list_t, list_r, tuple_t, tuple_r, dict_r, is_n, in_t, in_r, addI_ii, subI_ii, min_ii, append_r, key_i, key_s, eq_int, D.bl.injEq, exists_eq_left, exists_eq_left', exists_eq_right, exists_eq_right', exists_eq', Option.some.injEq, decide_eq_true_eq, decide_eq_false_iff_not, Bool.false_eq_true, if_false, if_true, reduceCtorEq, false_implies, true_implies, true_and, and_true, forall_const, imp_self, Bool.not_true, Bool.not_false, Bool.not_eq_true', Bool.not_eq_false', not_true_eq_false, not_false_eq_true, not_true_eq_false, not_false_eq_true, at_lit0, at_lit1, at_lit2, at_lit3, at_lit4, at_lit5, List.length_replicate, eq_few, eq_tru, get_w, eq_w1, eq_w2, eq_w3, Ak.k.injEq, sz0, sz1]
        refine put1 (kd := some .num) (xs := []) A2 hE (hL.mono hn) (Int.le_refl 1) (.inl rfl) (by simp) fun s' g' hA2 hg' eg hf' z' => ?_
        subst eg
        exact hG s' _ g.nx hA2 (hg'.mono hn) hE.nx (by show g.nx < g.nx + 1; omega) (f2'.trans hf' fun i q => .inl q)
      | tru =>
        simp only [List.map_cons, List.map_nil, List.length_cons, List.length_nil, List.cons_append, List.nil_append, List.replicate, List.set_cons_zero, List.set_cons_succ, seq_set, seq_ret, seq_expr, seq_next, seq_if, seq_asg, seq_seq, seq_cnt, oks_set, oks_ret, oks_expr, oks_next, oks_cnt, oks_if', oks_asg, ok_op, ok_un, ok_c, ok_nil, ok_cons, ok_tup, ok_lst, ok_var0, ok_varS, ok_call, ok_tst, ok_and, ok_or, ok_not, ok_meth, ok_bind, ok_some, ok_ite, ok_mapv, add_ii, add_tt, add_rr, sub_ii, mul_ii, mul_ti, mul_ri, mod_ii, fdiv_ii, pow_ii, lt_ii, get_ti, get_ri, get_rs, len_t, len_r, abs_i, int_b, list_t, list_r, tuple_t, tuple_r, dict_r, is_n, in_t, in_r, addI_ii, subI_ii, min_ii, append_r, key_i, key_s, eq_int, D.bl.injEq, exists_eq_left, exists_eq_left', exists_eq_right, exists_eq_right', exists_eq', Option.some.injEq, decide_eq_true_eq, decide_eq_false_iff_not, Bool.false_eq_true, if_false, if_true, reduceCtorEq, false_implies, true_implies, true_and, and_true, forall_const, imp_self, Bool.not_true, Bool.not_false, Bool.not_eq_true', Bool.not_eq_false', not_true_eq_false, not_false_eq_true, not_true_eq_false, not_false_eq_true, at_lit0, at_lit1, at_lit2, at_lit3, at_lit4, at_lit5, List.length_replicate, eq_few, eq_tru, get_w, eq_w1, eq_w2, eq_w3, Ak.k.injEq, sz0, sz1]
        refine put1 (kd := some .tru) (xs := []) A2 hE (hL.mono hn) (Int.le_refl 1) (.inl rfl) (by simp) fun s' g' hA2 hg' eg hf' z' => ?_
        subst eg
        exact hG s' _ g.nx hA2 (hg'.mono hn) hE.nx (by show g.nx < g.nx + 1; omega) (f2'.trans hf' fun i q => .inl q)
      | pair =>
        obtain ⟨rfl, hb⟩ := hr.resolve_left (by rintro (q | q | q) <;> cases q)
        simp only [List.map_cons, List.map_nil, List.length_cons, List.length_nil, List.cons_append, List.nil_append, List.replicate, List.set_cons_zero, List.set_cons_succ, seq_set, seq_ret, seq_expr, seq_next, seq_if, seq_asg, seq_seq, seq_cnt, oks_set, oks_ret, oks_expr, oks_next, oks_cnt, oks_if', oks_asg, ok_op, ok_un, ok_c, ok_nil, ok_cons, ok_tup, ok_lst, ok_var0, ok_varS, ok_call, ok_tst, ok_and, ok_or, ok_not, ok_meth, ok_bind, ok_some, ok_ite, ok_mapv, add_ii, add_tt, add_rr, sub_ii, mul_ii, mul_ti, mul_ri, mod_ii, fdiv_ii, pow_ii, lt_ii, get_ti, get_ri, get_rs, len_t, len_r, abs_i, int_b, list_t, list_r, tuple_t, tuple_r, dict_r, is_n, in_t, in_r, addI_ii, subI_ii, min_ii, append_r, key_i, key_s, eq_int, D.bl.injEq, exists_eq_left, exists_eq_left', exists_eq_right, exists_eq_right', exists_eq', Option.some.injEq, decide_eq_true_eq, decide_eq_false_iff_not, Bool.false_eq_true, if_false, if_true, reduceCtorEq, false_implies, true_implies, true_and, and_true, forall_const, imp_self, Bool.not_true, Bool.not_false, Bool.not_eq_true', Bool.not_eq_false', not_true_eq_false, not_false_eq_true, not_true_eq_false, not_false_eq_true, at_lit0, at_lit1, at_lit2, at_lit3, at_lit4, at_lit5, List.length_replicate, eq_few, eq_tru, get_w, eq_w1, eq_w2, eq_w3, Ak.k.injEq, sz0, sz1]
        have hfl := hF.fl
        refine names_lc (k := k + 2) (m := 1) (bs := c.fi.map Ak.k) hF A2 hE (by decide) (hL.mono (by rw [List.length_map]; omega)) (by rw [List.length_map]; omega) (fun b hb2 => ?_) ⟨.tup (c.fi.map Kd.d), c.fi.map Kd.d, ?_, by simp, pure_tup, fun i x b hx hb2 s => ⟨_, rfl, rfl, fun Q q => ?_⟩⟩ fun s g' is hA' hg' hl hx hq hf => ?_
        · obtain ⟨kd, hk, rfl⟩ := List.mem_map.mp hb2
          rcases hF.fi kd hk with rfl | rfl
          · exact ⟨trivial, hb _ (.inr (.inl rfl))⟩
          · exact ⟨trivial, hb _ (.inr (.inr rfl))⟩
        · unfold seqI
          rw [getS_eq A2.S st_fields]
          rfl
        · rw [List.getElem?_map] at hx hb2
          obtain ⟨k1, h1, rfl⟩ := mapS hx
          rw [h1] at hb2
          cases hb2
          simp only [List.map_cons, List.map_nil, List.length_cons, List.length_nil, List.cons_append, List.nil_append, List.replicate, List.set_cons_zero, List.set_cons_succ, seq_set, seq_ret, seq_expr, seq_next, seq_if, seq_asg, seq_seq, seq_cnt, oks_set, oks_ret, oks_expr, oks_next, oks_cnt, oks_if', oks_asg, ok_op, ok_un, ok_c, ok_nil, ok_cons, ok_tup, ok_lst, ok_var0, ok_varS, ok_call, ok_tst, ok_and, ok_or, ok_not, ok_meth, ok_bind, ok_some, ok_ite, ok_mapv, add_ii, add_tt, add_rr, sub_ii, mul_ii, mul_ti, mul_ri, mod_ii, fdiv_ii, pow_ii, lt_ii, get_ti, get_ri, get_rs, len_t, len_r, abs_i, int_b, list_t, list_r, tuple_t, tuple_r, dict_r, is_n, in_t, in_r, addI_ii, subI_ii, min_ii, append_r, key_i, key_s, eq_int, D.bl.injEq, exists_eq_left, exists_eq_left', exists_eq_right, exists_eq_right', exists_eq', Option.some.injEq, decide_eq_true_eq, decide_eq_false_iff_not, Bool.false_eq_true, if_false, if_true, reduceCtorEq, false_implies, true_implies, true_and, and_true, forall_const, imp_self, Bool.not_true, Bool.not_false, Bool.not_eq_true', Bool.not_eq_false', not_true_eq_false, not_false_eq_true, not_true_eq_false, not_false_eq_true, at_lit0, at_lit1, at_lit2, at_lit3, at_lit4, at_lit5, List.length_replicate, wipeE]
          exact q
        · rw [List.length_map] at hg' hl
          have hns := A2.new (n := s2.size) (Nat.le_refl _)
          refine put1 (hz := by have hs : SZ = 16777216 := (by decide); have := hF.fl; omega) (kd := some .pair) (xs := is) (n := 1) hA' (hE.gr hg') (Lim.gr (n := 1 * c.fi.length) (hL.mono (by omega)) hg') (Int.le_refl 1) (.inr ⟨_, rfl, hq, by rw [hg'.E]; exact hns.2.2.2.1, by rw [hg'.R]; exact hns.2.2.1⟩) hx fun s' g2 hA2 hg2 eg hf' z' => ?_
          subst eg
          exact hG s' _ g'.nx hA2 ((hg'.trans hg2).mono (by omega)) (hE.gr hg').nx (by show g'.nx < g'.nx + 1; omega) ((f2'.trans hf fun i q => .inl q).trans hf' fun i q => .inl (by rw [hg'.R, hg'.E] at q; exact q))
      | row =>
        obtain ⟨rfl, hb⟩ := hr.resolve_left (by rintro (q | q | q) <;> cases q)
        simp only [List.map_cons, List.map_nil, List.length_cons, List.length_nil, List.cons_append, List.nil_append, List.replicate, List.set_cons_zero, List.set_cons_succ, seq_set, seq_ret, seq_expr, seq_next, seq_if, seq_asg, seq_seq, seq_cnt, oks_set, oks_ret, oks_expr, oks_next, oks_cnt, oks_if', oks_asg, ok_op, ok_un, ok_c, ok_nil, ok_cons, ok_tup, ok_lst, ok_var0, ok_varS, ok_call, ok_tst, ok_and, ok_or, ok_not, ok_meth, ok_bind, ok_some, ok_ite, ok_mapv, add_ii, add_tt, add_rr, sub_ii, mul_ii, mul_ti, mul_ri, mod_ii, fdiv_ii, pow_ii, lt_ii, get_ti, get_ri, get_rs, len_t, len_r, abs_i, int_b, list_t, list_r, tuple_t, tuple_r, dict_r, is_n, in_t, in_r, addI_ii, subI_ii, min_ii, append_r, key_i, key_s, eq_int, D.bl.injEq, exists_eq_left, exists_eq_left', exists_eq_right, exists_eq_right', exists_eq', Option.some.injEq, decide_eq_true_eq, decide_eq_false_iff_not, Bool.false_eq_true, if_false, if_true, reduceCtorEq, false_implies, true_implies, true_and, and_true, forall_const, imp_self, Bool.not_true, Bool.not_false, Bool.not_eq_true', Bool.not_eq_false', not_true_eq_false, not_false_eq_true, not_true_eq_false, not_false_eq_true, at_lit0, at_lit1, at_lit2, at_lit3, at_lit4, at_lit5, List.length_replicate, eq_few, eq_tru, get_w, eq_w1, eq_w2, eq_w3, Ak.k.injEq, sz0, sz1]
        refine names_lc (k := k + 2) (m := 1) (bs := [.few, .few]) hF A2 hE (by decide) (hL.mono (by show (1 : Int) * 2 ≤ 10; decide)) (by show 2 < SZ; decide) (fun b hb2 => ?_) ⟨.tup [.int 0, .int 1], [.int 0, .int 1], rfl, rfl, pure_tup, fun i x b hx hb2 s => ⟨_, rfl, rfl, fun Q q => ?_⟩⟩ fun s g' is hA' hg' hl hx hq hf => ?_
        · simp only [List.mem_cons, List.not_mem_nil, or_false, or_self] at hb2
          subst hb2
          exact ⟨trivial, hb _ (.inl rfl)⟩
        · have e : b = .few := by
            have := List.mem_of_getElem? hb2
            simpa using this
          subst e
          simp only [List.map_cons, List.map_nil, List.length_cons, List.length_nil, List.cons_append, List.nil_append, List.replicate, List.set_cons_zero, List.set_cons_succ, seq_set, seq_ret, seq_expr, seq_next, seq_if, seq_asg, seq_seq, seq_cnt, oks_set, oks_ret, oks_expr, oks_next, oks_cnt, oks_if', oks_asg, ok_op, ok_un, ok_c, ok_nil, ok_cons, ok_tup, ok_lst, ok_var0, ok_varS, ok_call, ok_tst, ok_and, ok_or, ok_not, ok_meth, ok_bind, ok_some, ok_ite, ok_mapv, add_ii, add_tt, add_rr, sub_ii, mul_ii, mul_ti, mul_ri, mod_ii, fdiv_ii, pow_ii, lt_ii, get_ti, get_ri, get_rs, len_t, len_r, abs_i, int_b, list_t, list_r, tuple_t, tuple_r, dict_r, is_n, in_t, in_r, addI_ii, subI_ii, min_ii, append_r, key_i, key_s, eq_int, D.bl.injEq, exists_eq_left, exists_eq_left', exists_eq_right, exists_eq_right', exists_eq', Option.some.injEq, decide_eq_true_eq, decide_eq_false_iff_not, Bool.false_eq_true, if_false, if_true, reduceCtorEq, false_implies, true_implies, true_and, and_true, forall_const, imp_self, Bool.not_true, Bool.not_false, Bool.not_eq_true', Bool.not_eq_false', not_true_eq_false, not_false_eq_true, not_true_eq_false, not_false_eq_true, at_lit0, at_lit1, at_lit2, at_lit3, at_lit4, at_lit5, List.length_replicate, wipeE]
          exact q
        · have hns := A2.new (n := s2.size) (Nat.le_refl _)
          have hg2' : Gr 2 g g' := hg'
          refine put1 (hz := by have hs : SZ = 16777216 := (by decide); have hl2 : is.length = 2 := hl; omega) (kd := some .row) (xs := is) (n := 1) hA' (hE.gr hg') (Lim.gr (n := 2) (hL.mono (by omega)) hg2') (Int.le_refl 1) (.inr ⟨_, rfl, hq, by rw [hg'.E]; exact hns.2.2.2.1, by rw [hg'.R]; exact hns.2.2.1⟩) hx fun s' g2 hA2 hg2 eg hf' z' => ?_
          subst eg
          exact hG s' _ g'.nx hA2 ((hg2'.trans hg2).mono (by omega)) (hE.gr hg').nx (by show g'.nx < g'.nx + 1; omega) ((f2'.trans hf fun i q => .inl q).trans hf' fun i q => .inl (by rw [hg'.R, hg'.E] at q; exact q))
      | fn m =>
        obtain ⟨rfl, hb⟩ := hr.resolve_left (by rintro (q | q | q) <;> cases q)
        simp only [List.map_cons, List.map_nil, List.length_cons, List.length_nil, List.cons_append, List.nil_append, List.replicate, List.set_cons_zero, List.set_cons_succ, seq_set, seq_ret, seq_expr, seq_next, seq_if, seq_asg, seq_seq, seq_cnt, oks_set, oks_ret, oks_expr, oks_next, oks_cnt, oks_if', oks_asg, ok_op, ok_un, ok_c, ok_nil, ok_cons, ok_tup, ok_lst, ok_var0, ok_varS, ok_call, ok_tst, ok_and, ok_or, ok_not, ok_meth, ok_bind, ok_some, ok_ite, ok_mapv, add_ii, add_tt, add_rr, sub_ii, mul_ii, mul_ti, mul_ri, mod_ii, fdiv_ii, pow_ii, lt_ii, get_ti, get_ri, get_rs, len_t, len_r, abs_i, int_b, list_t, list_r, tuple_t, tuple_r, dict_r, is_n, in_t, in_r, addI_ii, subI_ii, min_ii, append_r, key_i, key_s, eq_int, D.bl.injEq, exists_eq_left, exists_eq_left', exists_eq_right, exists_eq_right', exists_eq', Option.some.injEq, decide_eq_true_eq, decide_eq_false_iff_not, Bool.false_eq_true, if_false, if_true, reduceCtorEq, false_implies, true_implies, true_and, and_true, forall_const, imp_self, Bool.not_true, Bool.not_false, Bool.not_eq_true', Bool.not_eq_false', not_true_eq_false, not_false_eq_true, not_true_eq_false, not_false_eq_true, at_lit0, at_lit1, at_lit2, at_lit3, at_lit4, at_lit5, List.length_replicate, eq_few, eq_tru, get_w, eq_w1, eq_w2, eq_w3, Ak.k.injEq, sz0, sz1]
        have gf : ∀ s : Sto, getD (Ak.d (.k (.fn m))) (.int 1) s = some (.tup (List.replicate m (.tup [.str "number"])), s) := fun _ => rfl
        have hcl := hF.cl
        refine ok_lcp (ε := Str × Int × Int) (enc := cD) (p := fun x => decide (x.2.1 - x.2.2 = m)) (y := cD) (oki_seq ?_)
        simp only [ok_op, ok_var0, ok_c, get_rs, A2.S, st_calls, Option.map_some, ok_some]
        refine .inr ⟨_, _, rfl, A2.C, c.calls, thru_lst A2.C, by omega, fun x _ s _ => ⟨_, rfl, ?_⟩, ?_⟩
        · simp only [List.map_cons, List.map_nil, List.length_cons, List.length_nil, List.cons_append, List.nil_append, List.replicate, List.set_cons_zero, List.set_cons_succ, seq_set, seq_ret, seq_expr, seq_next, seq_if, seq_asg, seq_seq, seq_cnt, oks_set, oks_ret, oks_expr, oks_next, oks_cnt, oks_if', oks_asg, ok_op, ok_un, ok_c, ok_nil, ok_cons, ok_tup, ok_lst, ok_var0, ok_varS, ok_call, ok_tst, ok_and, ok_or, ok_not, ok_meth, ok_bind, ok_some, ok_ite, ok_mapv, add_ii, add_tt, add_rr, sub_ii, mul_ii, mul_ti, mul_ri, mod_ii, fdiv_ii, pow_ii, lt_ii, get_ti, get_ri, get_rs, len_t, len_r, abs_i, int_b, list_t, list_r, tuple_t, tuple_r, dict_r, is_n, in_t, in_r, addI_ii, subI_ii, min_ii, append_r, key_i, key_s, eq_int, D.bl.injEq, exists_eq_left, exists_eq_left', exists_eq_right, exists_eq_right', exists_eq', Option.some.injEq, decide_eq_true_eq, decide_eq_false_iff_not, Bool.false_eq_true, if_false, if_true, reduceCtorEq, false_implies, true_implies, true_and, and_true, forall_const, imp_self, Bool.not_true, Bool.not_false, Bool.not_eq_true', Bool.not_eq_false', not_true_eq_false, not_false_eq_true, not_true_eq_false, not_false_eq_true, at_lit0, at_lit1, at_lit2, at_lit3, at_lit4, at_lit5, List.length_replicate, wipeE, cD, gf]
          simp
        obtain ⟨x0, hx0, hxm⟩ := (show ∃ x ∈ c.calls, x.2.1 - x.2.2 = (m : Int) from hA)
        cases hfl : c.calls.filter (fun x => decide (x.2.1 - x.2.2 = (m : Int))) with
        | nil =>
          have := List.filter_eq_nil_iff.mp hfl x0 hx0
          simp [hxm] at this
        | cons x r =>
          have hx : x ∈ c.calls := (List.mem_filter.mp (by rw [hfl]; simp)).1
          have hca := hF.ca x hx
          generalize hs3 : s2.push (.lst ((x :: r).map cD)) = s3
          have A3 : At c g s3 := by rw [← hs3]; exact A2.push
          have q3' : s3.get s2.size = some (.lst ((x :: r).map cD)) := by rw [← hs3]; exact Sto.get_push_new
          have f3 : Fm [c.S, c.P, g.R, g.E] st s3 := f2'.trans (by rw [← hs3]; exact Fm.push (W := [])) fun i q => by cases q
          rw [get_ri, q3']
          simp only [List.map_cons, List.map_nil, List.length_cons, List.length_nil, List.cons_append, List.nil_append, List.replicate, List.set_cons_zero, List.set_cons_succ, seq_set, seq_ret, seq_expr, seq_next, seq_if, seq_asg, seq_seq, seq_cnt, oks_set, oks_ret, oks_expr, oks_next, oks_cnt, oks_if', oks_asg, ok_op, ok_un, ok_c, ok_nil, ok_cons, ok_tup, ok_lst, ok_var0, ok_varS, ok_call, ok_tst, ok_and, ok_or, ok_not, ok_meth, ok_bind, ok_some, ok_ite, ok_mapv, add_ii, add_tt, add_rr, sub_ii, mul_ii, mul_ti, mul_ri, mod_ii, fdiv_ii, pow_ii, lt_ii, get_ti, get_ri, get_rs, len_t, len_r, abs_i, int_b, list_t, list_r, tuple_t, tuple_r, dict_r, is_n, in_t, in_r, addI_ii, subI_ii, min_ii, append_r, key_i, key_s, eq_int, D.bl.injEq, exists_eq_left, exists_eq_left', exists_eq_right, exists_eq_right', exists_eq', Option.some.injEq, decide_eq_true_eq, decide_eq_false_iff_not, Bool.false_eq_true, if_false, if_true, reduceCtorEq, false_implies, true_implies, true_and, and_true, forall_const, imp_self, Bool.not_true, Bool.not_false, Bool.not_eq_true', Bool.not_eq_false', not_true_eq_false, not_false_eq_true, not_true_eq_false, not_false_eq_true, at_lit0, at_lit1, at_lit2, at_lit3, at_lit4, at_lit5, List.length_replicate]
          refine ⟨_, _, rfl, ?_⟩
          simp only [List.map_cons, List.map_nil, List.length_cons, List.length_nil, List.cons_append, List.nil_append, List.replicate, List.set_cons_zero, List.set_cons_succ, seq_set, seq_ret, seq_expr, seq_next, seq_if, seq_asg, seq_seq, seq_cnt, oks_set, oks_ret, oks_expr, oks_next, oks_cnt, oks_if', oks_asg, ok_op, ok_un, ok_c, ok_nil, ok_cons, ok_tup, ok_lst, ok_var0, ok_varS, ok_call, ok_tst, ok_and, ok_or, ok_not, ok_meth, ok_bind, ok_some, ok_ite, ok_mapv, add_ii, add_tt, add_rr, sub_ii, mul_ii, mul_ti, mul_ri, mod_ii, fdiv_ii, pow_ii, lt_ii, get_ti, get_ri, get_rs, len_t, len_r, abs_i, int_b, list_t, list_r, tuple_t, tuple_r, dict_r, is_n, in_t, in_r, addI_ii, subI_ii, min_ii, append_r, key_i, key_s, eq_int, D.bl.injEq, exists_eq_left, exists_eq_left', exists_eq_right, exists_eq_right', exists_eq', Option.some.injEq, decide_eq_true_eq, decide_eq_false_iff_not, Bool.false_eq_true, if_false, if_true, reduceCtorEq, false_implies, true_implies, true_and, and_true, forall_const, imp_self, Bool.not_true, Bool.not_false, Bool.not_eq_true', Bool.not_eq_false', not_true_eq_false, not_false_eq_true, not_true_eq_false, not_false_eq_true, at_lit0, at_lit1, at_lit2, at_lit3, at_lit4, at_lit5, List.length_replicate]
          refine names_lc (k := k + 2) (m := 1) (bs := List.replicate x.2.2.toNat (.k .num)) hF A3 hE (by decide) (hL.mono (by rw [List.length_replicate]; omega)) (by rw [List.length_replicate]; omega) (fun b hb2 => ?_) ⟨.rng 0 x.2.2.toNat, (List.range x.2.2.toNat).map fun i => .int (0 + (i : Nat)), ?_, by simp, pure_rng, fun i y b hy hb2 s => ⟨_, rfl, rfl, fun Q q => ?_⟩⟩ fun s g' is hA' hg' hl hx' hq hf => ?_
          · rw [List.eq_of_mem_replicate hb2]
            exact ⟨trivial, hb _ (.inr (.inl rfl))⟩
          · show (rng1I (varF 7) _ s3) = _
            unfold rng1I
            show (some (D.int x.2.2, s3)).bind _ = _
            rw [Option.bind_some]
            simp only
            rw [if_pos (by omega)]
          · have eb := List.eq_of_mem_replicate (List.mem_of_getElem? hb2)
            subst eb
            simp only [List.map_cons, List.map_nil, List.length_cons, List.length_nil, List.cons_append, List.nil_append, List.replicate, List.set_cons_zero, List.set_cons_succ, seq_set, seq_ret, seq_expr, seq_next, seq_if, seq_asg, seq_seq, seq_cnt, oks_set, oks_ret, oks_expr, oks_next, oks_cnt, oks_if', oks_asg, ok_op, ok_un, ok_c, ok_nil, ok_cons, ok_tup, ok_lst, ok_var0, ok_varS, ok_call, ok_tst, ok_and, ok_or, ok_not, ok_meth, ok_bind, ok_some, ok_ite, ok_mapv, add_ii, add_tt, add_rr, sub_ii, mul_ii, mul_ti, mul_ri, mod_ii, fdiv_ii, pow_ii, lt_ii, get_ti, get_ri, get_rs, len_t, len_r, abs_i, int_b, list_t, list_r, tuple_t, tuple_r, dict_r, is_n, in_t, in_r, addI_ii, subI_ii, min_ii, append_r, key_i, key_s, eq_int, D.bl.injEq, exists_eq_left, exists_eq_left', exists_eq_right, exists_eq_right', exists_eq', Option.some.injEq, decide_eq_true_eq, decide_eq_false_iff_not, Bool.false_eq_true, if_false, if_true, reduceCtorEq, false_implies, true_implies, true_and, and_true, forall_const, imp_self, Bool.not_true, Bool.not_false, Bool.not_eq_true', Bool.not_eq_false', not_true_eq_false, not_false_eq_true, not_true_eq_false, not_false_eq_true, at_lit0, at_lit1, at_lit2, at_lit3, at_lit4, at_lit5, List.length_replicate, wipeE]
            exact q
          · rw [List.length_replicate] at hg' hl
            have hns := A3.new (n := s3.size) (Nat.le_refl _)
            refine put1 (hz := by have hs : SZ = 16777216 := (by decide); omega) (kd := some (.fn m)) (xs := is) (n := 1) hA' (hE.gr hg') (Lim.gr (n := 1 * (x.2.2.toNat : Int)) (hL.mono (by omega)) hg') (Int.le_refl 1) (.inr ⟨_, rfl, hq, by rw [hg'.E]; exact hns.2.2.2.1, by rw [hg'.R]; exact hns.2.2.1⟩) hx' fun s' g2 hA2 hg2 eg hf' z' => ?_
            subst eg
            exact hG s' _ g'.nx hA2 ((hg'.trans hg2).mono (by omega)) (hE.gr hg').nx (by show g'.nx < g'.nx + 1; omega) ((f3.trans hf fun i q => .inl q).trans hf' fun i q => .inl (by rw [hg'.R, hg'.E] at q; exact q))
theorem name_base {a : Ak} (ha : a.base) : NameOk (k + 3) 1 a := name_step (Int.le_refl 1) (.inl ha)
theorem name_ok {a : Ak} : NameOk (k + 4) 10 a := name_step (k := k + 1) (by decide) (.inr ⟨rfl, fun b hb => name_base hb⟩)
end
end Mw
/-! The menu of ops. -/
namespace Mw
open PySem PySem.Spec PyProof.Rows L2 Dn
structure Op where
  op : Str
  ks : List Ak
  kd : Option Kd
  more : D
def Op.d (o : Op) : D := .tup [.str o.op, .tup (o.ks.map Ak.d), oK o.kd, o.more]
def OpOk (c : Fx) (o : Op) : Prop := (∀ a ∈ o.ks, AOk c a) ∧ o.ks.length ≤ 10
/-- a list of ops lies at n -/
def J (c : Fx) (s : Sto) (n lo hi : Nat) : Prop := ∃ os : List Op, s.get n = some (.lst (os.map Op.d)) ∧ lo ≤ os.length ∧ os.length ≤ hi ∧ ∀ o ∈ os, OpOk c o
section
variable {c : Fx} {s s' st : Sto} {n m lo hi lo' hi' : Nat} {env : Dn.Env} {R : Res → Prop} {X Y : M D} {b : SM}
theorem J.fm (h : J c s n lo hi) (f : Fm [] s s') : J c s' n lo hi := let ⟨os, h1, h2⟩ := h; ⟨os, f.keep h1 (by simp), h2⟩
def XOk (c : Fx) (X : M D) (env : Dn.Env) (s : Sto) (lo hi : Nat) : Prop := Ok (X env s) fun d s' => ∃ m, d = .ref m ∧ J c s' m lo hi ∧ Fm [] s s'
theorem add_ops (hJ : J c s n lo hi) (h5 : env[5]? = some (some (.ref n))) (hX : XOk c X env s 0 hi') (hz : hi + hi' ≤ SZ) : Ok (opF addD (varF 5) X env s) fun d s' => ∃ m, d = .ref m ∧ J c s' m lo (hi + hi') ∧ Fm [] s s' := by
  refine ok_op.mpr ⟨.ref n, s, ?_, ?_⟩
  · unfold varF
    rw [h5]
  obtain ⟨d, s1, e, m, rfl, ⟨ps, p1, _, p3, p4⟩, f⟩ := hX
  refine ⟨_, s1, e, ?_⟩
  obtain ⟨os, o1, o2, o3, o4⟩ := hJ.fm f
  rw [add_rr, o1, p1]
  simp only
  rw [if_pos (by rw [List.length_map, List.length_map]; omega), ← List.map_append]
  refine ok_some.mpr ⟨_, rfl, ⟨os ++ ps, Sto.get_push_new, by rw [List.length_append]; omega, by rw [List.length_append]; omega, fun o ho => ?_⟩, f.trans (Fm.push (W := [])) fun i q => by cases q⟩
  rcases List.mem_append.mp ho with ho | ho
  · exact o4 o ho
  · exact p4 o ho
theorem seq_ops (hJ : J c s n lo hi) (h5 : env[5]? = some (some (.ref n))) (hX : XOk c X env s 0 hi') (hz : hi + hi' ≤ SZ) (k : ∀ s' n', J c s' n' lo (hi + hi') → Fm [] s s' → OkS (b (env.set 5 (some (.ref n'))) s') R) : OkS (seqS (setS 5 (opF addD (varF 5) X)) b env s) R :=
  seq_set.mpr ((add_ops hJ h5 hX hz).imp fun d s' ⟨m, e, h1, h2⟩ => by subst e; exact k s' m h1 h2)
theorem set_ops (hJ : J c s n lo hi) (h5 : env[5]? = some (some (.ref n))) (hX : XOk c X env s 0 hi') (hz : hi + hi' ≤ SZ) (k : ∀ s' n', J c s' n' lo (hi + hi') → Fm [] s s' → R (.nx (env.set 5 (some (.ref n'))) s')) : OkS (setS 5 (opF addD (varF 5) X) env s) R :=
  oks_set.mpr ((add_ops hJ h5 hX hz).imp fun d s' ⟨m, e, h1, h2⟩ => by subst e; exact k s' m h1 h2)
theorem J.mono (h : J c s n lo hi) (l : hi ≤ hi') : J c s n lo hi' := let ⟨os, h1, h2, h3, h4⟩ := h; ⟨os, h1, h2, by omega, h4⟩
theorem seq_ops2 (hJ : J c s n lo hi) (h5 : env[5]? = some (some (.ref n))) (hX : XOk c X env s 0 hi') (hY : ∀ s', Fm [] s s' → XOk c Y env s' 0 m) (hz : hi + hi' + m ≤ SZ) (k : ∀ s' n', J c s' n' lo (hi + hi' + m) → Fm [] s s' → OkS (b (env.set 5 (some (.ref n'))) s') R) : OkS (seqS (setS 5 (opF addD (opF addD (varF 5) X) Y)) b env s) R := by
  refine seq_set.mpr (ok_op.mpr ((add_ops hJ h5 hX (by omega)).imp fun d s1 ⟨n1, e, h1, h2⟩ => ?_))
  subst e
  obtain ⟨d, s2, e2, n2, rfl, ⟨ps, p1, _, p3, p4⟩, f⟩ := hY s1 h2
  refine ⟨_, s2, e2, ?_⟩
  obtain ⟨os, o1, o2, o3, o4⟩ := h1.fm f
  rw [add_rr, o1, p1]
  simp only
  rw [if_pos (by rw [List.length_map, List.length_map]; omega), ← List.map_append]
  refine ok_some.mpr (k _ _ ⟨os ++ ps, Sto.get_push_new, by rw [List.length_append]; omega, by rw [List.length_append]; omega, fun o ho => ?_⟩ ((h2.trans f fun i q => by cases q).trans (Fm.push (W := [])) fun i q => by cases q))
  rcases List.mem_append.mp ho with ho | ho
  · exact o4 o ho
  · exact p4 o ho
theorem lc_ops {ε : Type} {enc : ε → D} (xs : List ε) (mk : ε → Op) {i : Nat} {fi : Dn.Env → Sto → Option (Src × Sto)} {te : M D} (hlo : lo ≤ xs.length) (hz : xs.length ≤ hi) (hh : hi ≤ SZ) (hfi : fi env st = some (.tup (xs.map enc), st)) (hok : ∀ x ∈ xs, OpOk c (mk x))
    (hte : ∀ x ∈ xs, ∀ s, te ((wipeE env [i]).set i (some (enc x))) s = some ((mk x).d, s)) : XOk c (lcF fi (nameG i) yesF te [i]) env st lo hi := by
  refine ok_lcp (ε := ε) (enc := enc) (p := fun _ => true) (y := fun x => (mk x).d) ⟨_, st, hfi, xs, thru_tup, by omega, fun x hx s _ => ⟨_, rfl, true, s, rfl, rfl, rfl, fun _ => ⟨_, s, hte x hx s, rfl, rfl⟩⟩, ?_⟩
  refine ⟨_, rfl, ⟨xs.map mk, ?_, by rw [List.length_map]; exact hlo, by rw [List.length_map]; exact hz, fun o ho => ?_⟩, Fm.push⟩
  · rw [Sto.get_push_new, List.map_map, List.filter_eq_self.mpr (fun _ _ => rfl)]
    rfl
  · obtain ⟨x, hx, rfl⟩ := List.mem_map.mp ho
    exact hok x hx
theorem lst_ops {fs : M (List D)} (os : List Op) (hz : os.length ≤ hi) (hh : hi ≤ SZ) (hfs : Ok (fs env st) fun ds s => ds = os.map Op.d ∧ s = st) (hok : ∀ o ∈ os, OpOk c o) : XOk c (lstF fs) env st 0 hi := by
  obtain ⟨_, _, hfs, rfl, rfl⟩ := hfs
  refine ok_lst.mpr ⟨_, _, hfs, by rw [List.length_map]; omega, _, rfl, ⟨os, Sto.get_push_new, Nat.zero_le _, hz, hok⟩, Fm.push⟩
theorem mul_ops {fs : M (List D)} (os : List Op) (r : Nat) (hz : r * os.length ≤ hi) (hh : hi ≤ SZ) (hr : r ≤ 100) (h1 : os.length ≤ 100) (hfs : Ok (fs env st) fun ds s => ds = os.map Op.d ∧ s = st) (hok : ∀ o ∈ os, OpOk c o) : XOk c (opF mulD (lstF fs) (cF (.int r))) env st 0 hi := by
  obtain ⟨_, _, hfs, rfl, rfl⟩ := hfs
  have e : SZ = 16777216 := by decide
  refine ok_op.mpr (ok_lst.mpr ⟨_, _, hfs, by rw [List.length_map]; omega, ok_c.mpr ?_⟩)
  rw [mul_ri, Sto.get_push_new]
  simp only
  have e2 : ((r : Int)).toNat = r := by omega
  have e3 : os.length * r ≤ SZ := by rw [Nat.mul_comm]; omega
  rw [if_pos ⟨by omega, by omega, by rw [List.length_map, e2]; exact e3⟩, e2]
  have e4 : (List.replicate r (os.map Op.d)).flatten = ((List.replicate r os).flatten).map Op.d := by
    rw [List.map_flatten, List.map_replicate]
  rw [e4]
  refine ok_some.mpr ⟨_, rfl, ⟨(List.replicate r os).flatten, Sto.get_push_new, Nat.zero_le _, ?_, fun o ho => ?_⟩, Fm.push.trans (Fm.push (W := [])) fun i q => by cases q⟩
  · rw [List.length_flatten, List.map_replicate, List.sum_replicate_nat]
    exact hz
  · obtain ⟨l, hl, ho⟩ := List.mem_flatten.mp ho
    rw [List.eq_of_mem_replicate hl] at ho
    exact hok o ho
/-- for: each turn leaves what Pv tells -/
theorem oks_for {it : Dn.Env → Sto → Option (Src × Sto)} {g : GM} {body : SM} {env : Dn.Env} {st : Sto} {R : Res → Prop} (h : Ok (it env st) fun src s1 => ∃ (xs : List D) (Pv : Nat → Dn.Env → Sto → Prop), countD src s1 = some xs.length ∧ Pv 0 env s1 ∧
    (∀ i e s d, xs[i]? = some d → Pv i e s → nextD src i s = some (some d) ∧ ∃ e1 s2, g d e s = some (e1, s2) ∧ OkS (body e1 s2) fun r => match r with
      | .nx e s => Pv (i + 1) e s
      | .ct e s => Pv (i + 1) e s
      | _ => False) ∧
    (∀ e s, Pv xs.length e s → nextD src xs.length s = some none ∧ R (.nx e s))) : OkS (forS it g body env st) R := by
  obtain ⟨src, s1, e1, xs, Pv, hc, p0, step, stop⟩ := h
  have key : ∀ k i e s, i + k = xs.length → Pv i e s → ∃ e' s', forL src g body k i e s = some (.nx e' s') ∧ Pv xs.length e' s' := by
    intro k
    induction k with
    | zero =>
      intro i e s hi hP
      have : i = xs.length := by omega
      subst this
      refine ⟨e, s, ?_, hP⟩
      unfold forL
      rw [(stop e s hP).1]
    | succ k ih =>
      intro i e s hi hP
      have hlt : i < xs.length := by omega
      obtain ⟨hn, e2, s2, hg, r, hb, hr⟩ := step i e s _ (List.getElem?_eq_getElem hlt) hP
      unfold forL
      rw [hn]
      simp only [hg, hb]
      cases r with
      | nx e s => exact ih (i + 1) _ _ (by omega) hr
      | ct e s => exact ih (i + 1) _ _ (by omega) hr
      | _ => exact False.elim hr
  obtain ⟨e, s, hl, hP⟩ := key xs.length 0 env s1 (by omega) p0
  refine ⟨.nx e s, ?_, (stop e s hP).2⟩
  unfold forS
  rw [e1, Option.bind_some]
  simp only [hc, Option.bind_some, hl]
theorem seq_for {it : Dn.Env → Sto → Option (Src × Sto)} {g : GM} {body : SM} {env : Dn.Env} {st : Sto} {R : Res → Prop} (h : OkS (forS it g body env st) fun r => match r with
    | .nx e s => OkS (b e s) R
    | r => R r) : OkS (seqS (forS it g body) b env st) R := oks_seq.mpr h
end
section
variable {c : Fx} {g : Gs} {st : Sto} {k : Nat}
theorem nums_ok {k : Ak} {c : Fx} (h : k.base ∨ k = .k .row ∨ k = .k .pair) : AOk c k := by
  rcases h with (rfl | rfl | rfl) | rfl | rfl <;> trivial
def opsTail : SM := (seqS (forS (enumI (opF getD (varF 0) (cF (.str "fields")))) (tupG 2 (consG (nameG 6) (consG (nameG 7) (nilG)))) (setS 5 (opF addD (varF 5) (lstF (consF (tupF (consF (cF (.str "cell")) (consF (tupF (consF (varF 4) nilF)) (consF (varF 7) (consF (tupF (consF (varF 6) nilF)) nilF))))) (consF (tupF (consF (cF (.str "store")) (consF (tupF (consF (varF 4) (consF (varF 7) nilF))) (consF (cF .non) (consF (tupF (consF (varF 6) nilF)) nilF))))) nilF))))))
  (seqS (forS (seqI (opF getD (varF 0) (cF (.str "calls")))) (tupG 3 (consG (nameG 8) (consG (nameG 9) (consG (nameG 10) (nilG))))) (seqS (setS 11 (tupF (consF (cF (.str "fun")) (consF (opF mulD (tupF (consF (varF 1) nilF)) (opF subD (varF 9) (varF 10))) (consF (varF 1) nilF)))))
  (seqS (setS 5 (opF addD (varF 5) (opF mulD (lstF (consF (tupF (consF (cF (.str "call")) (consF (opF mulD (tupF (consF (varF 1) nilF)) (varF 9)) (consF (varF 1) (consF (tupF (consF (varF 8) nilF)) nilF))))) (consF (tupF (consF (cF (.str "close")) (consF (opF mulD (tupF (consF (varF 1) nilF)) (varF 10)) (consF (varF 11) (consF (tupF (consF (varF 8) nilF)) nilF))))) nilF))) (cF (.int 2)))))
  (setS 5 (opF addD (varF 5) (opF mulD (lstF (consF (tupF (consF (cF (.str "ask")) (consF (opF addD (tupF (consF (varF 11) nilF)) (opF getD (varF 11) (cF (.int 1)))) (consF (varF 1) (consF (tupF (nilF)) nilF))))) nilF)) (cF (.int 2))))))))
  (retS (varF 5))))
theorem ops_end (hF : FxOk c) (h : At c g st) {s : Sto} {n : Nat} (hJ : J c s n 6 33) (f0 : Fm [] st s) {G : D → Sto → Prop} (hG : ∀ n s, J c s n 1 1000 → Fm [] st s → G (.ref n) s) : OkS (opsTail [some (.ref c.S), some Kd.num.d, some Kd.tru.d, some Kd.row.d, some Kd.pair.d, some (.ref n), none, none, none, none, none, none, none, none, none, none] s) (fun r => match r with
    | .rt d s => G d s
    | .nx _ s => G .non s
    | _ => False) := by
  unfold opsTail
  have z : SZ = 16777216 := by decide
  have nn : AOk c (.k .num) := trivial
  have nt : AOk c (.k .tru) := trivial
  have nr : AOk c (.k .row) := trivial
  have np : AOk c (.k .pair) := trivial
  have nf : AOk c .few := trivial
  have ok0 : ∀ op kd more, OpOk c ⟨op, [], kd, more⟩ := fun _ _ _ => ⟨by simp, by simp⟩
  have ok1 : ∀ op kd more a, AOk c a → OpOk c ⟨op, [a], kd, more⟩ := fun _ _ _ a ha => ⟨by simpa using ha, by simp⟩
  have ok2 : ∀ op kd more a b, AOk c a → AOk c b → OpOk c ⟨op, [a, b], kd, more⟩ := fun _ _ _ a b ha hb => ⟨by simp [ha, hb], by simp⟩
  have ok3 : ∀ op kd more a b d, AOk c a → AOk c b → AOk c d → OpOk c ⟨op, [a, b, d], kd, more⟩ := fun _ _ _ a b d ha hb hd => ⟨by simp [ha, hb, hd], by simp⟩
  have pure0 : ∀ {fs : M (List D)} {env : Dn.Env} {os : List Op} {s : Sto}, fs env s = some (os.map Op.d, s) → Ok (fs env s) fun ds s' => ds = os.map Op.d ∧ s' = s := fun e => ⟨_, _, e, rfl, rfl⟩
  have fk : ∀ a ∈ c.fi.map Ak.k, AOk c a := fun a ha => by
    obtain ⟨k, hk, rfl⟩ := List.mem_map.mp ha
    rcases hF.fi k hk with rfl | rfl <;> trivial
  have hfl := hF.fl
  have hS := f0.keep h.S (by simp)
  -- the fields' cells
  refine seq_for (oks_for ⟨.enT (c.fi.map Kd.d), s, ?_, c.fi.zipIdx.map (fun p => .tup [.int (p.2 : Nat), p.1.d]), fun i e s => ∃ n x y, e = [some (.ref c.S), some Kd.num.d, some Kd.tru.d, some Kd.row.d, some Kd.pair.d, some (.ref n), x, y, none, none, none, none, none, none, none, none] ∧ J c s n 6 (33 + 2 * i) ∧ Fm [] st s, by show some (c.fi.map Kd.d).length = _; simp, ⟨n, none, none, rfl, hJ.mono (by omega), f0⟩, ?_, ?_⟩)
  · show enumI _ _ s = _
    unfold enumI
    rw [getS_eq hS st_fields]
    rfl
  · rintro i e s d hd ⟨n, x, y, rfl, hJ, f⟩
    rw [List.getElem?_map, List.getElem?_zipIdx] at hd
    obtain ⟨p, hp, rfl⟩ := mapS hd
    obtain ⟨kd, hk, rfl⟩ := mapS hp
    simp only [Nat.zero_add] at hd ⊢
    refine ⟨?_, _, s, rfl, set_ops (hi' := 2) hJ rfl (lst_ops [⟨"cell", [.k .pair], some kd, .tup [.int i]⟩, ⟨"store", [.k .pair, .k kd], none, .tup [.int i]⟩] (Nat.le_refl _) (by decide) (pure0 rfl) (fun o ho => ?_)) ?_ fun s' n' hJ' f' => ⟨n', _, _, rfl, hJ'.mono (by omega), f.trans f' fun i q => by cases q⟩⟩
    · show some (((c.fi.map Kd.d)[i]?).map fun x => D.tup [.int (i : Nat), x]) = _
      rw [List.getElem?_map, hk]
      rfl
    · simp only [List.mem_cons, List.not_mem_nil, or_false] at ho
      rcases ho with rfl | rfl
      · exact ok1 _ _ _ _ np
      · exact ok2 _ _ _ _ _ np (fk _ (List.mem_map_of_mem (List.mem_of_getElem? hk)))
    · have := (List.getElem?_eq_some_iff.mp hk).1
      omega
  rintro e s ⟨n, x, y, rfl, hJ, f0⟩
  have hlen : (c.fi.zipIdx.map (fun p => D.tup [.int (p.2 : Nat), p.1.d])).length = c.fi.length := by simp
  rw [hlen] at hJ ⊢
  refine ⟨?_, ?_⟩
  · show some (((c.fi.map Kd.d)[c.fi.length]?).map fun x => D.tup [.int (c.fi.length : Nat), x]) = _
    rw [List.getElem?_map, List.getElem?_eq_none (Nat.le_refl _)]
    rfl
  have hS := f0.keep h.S (by simp)
  have hC := f0.keep h.C (by simp)
  have hcl := hF.cl
  have rep : ∀ (n : Nat) (d : D), (List.replicate n [d]).flatten = List.replicate n d := fun n d => List.flatten_replicate_singleton
  -- calls, closes, asks
  refine seq_for (oks_for ⟨.lst c.C, s, ?_, c.calls.map cD, fun i e s => ∃ n x y a b d f, e = [some (.ref c.S), some Kd.num.d, some Kd.tru.d, some Kd.row.d, some Kd.pair.d, some (.ref n), x, y, a, b, d, f, none, none, none, none] ∧ J c s n 6 (49 + 6 * i) ∧ Fm [] st s, (thru_lst hC).2, ⟨n, x, y, none, none, none, none, rfl, hJ.mono (by omega), f0⟩, ?_, ?_⟩)
  · show seqI _ _ s = _
    unfold seqI
    rw [getS_eq hS st_calls]
    simp only [Option.bind_some, seq_get hC, Option.map_some]
  · rintro i e s d hd ⟨n, x, y, a1, a2, a3, a4, rfl, hJ, f⟩
    have hd2 := hd
    rw [List.getElem?_map] at hd2
    obtain ⟨p, hp, rfl⟩ := mapS hd2
    have hpm := List.mem_of_getElem? hp
    have hca := hF.ca p hpm
    have hil := (List.getElem?_eq_some_iff.mp hp).1
    refine ⟨?_, _, s, rfl, ?_⟩
    · show (s.seq c.C).map (fun xs => xs[i]?) = _
      rw [seq_get (f.keep h.C (by simp))]
      exact congrArg some hd
    have z3 : 0 + 1 + 1 + 1 ≤ SZ := by decide
    have z1 : 0 + 1 ≤ SZ := by decide
    have z4 : 0 + 1 + 1 + 1 + 1 ≤ SZ := by decide
    have m1 : ∀ s : Sto, mulD (.tup [Kd.num.d]) (.int (p.2.1 - p.2.2)) s = some (.tup (List.replicate (p.2.1 - p.2.2).toNat Kd.num.d), s) := fun s => by
      rw [mul_ti, if_pos ⟨by simp, by omega, by omega, by simp⟩, rep]
    have m2 : ∀ s : Sto, mulD (.tup [Kd.num.d]) (.int p.2.1) s = some (.tup (List.replicate p.2.1.toNat Kd.num.d), s) := fun s => by
      rw [mul_ti, if_pos ⟨by simp, by omega, by omega, by simp⟩, rep]
    have m3 : ∀ s : Sto, mulD (.tup [Kd.num.d]) (.int p.2.2) s = some (.tup (List.replicate p.2.2.toNat Kd.num.d), s) := fun s => by
      rw [mul_ti, if_pos ⟨by simp, by omega, by omega, by simp⟩, rep]
    refine seq_set.mpr ⟨(Kd.fn (p.2.1 - p.2.2).toNat).d, s, ?_, ?_⟩
    · have q : Ok (tupF (consF (cF (.str "fun")) (consF (opF mulD (tupF (consF (varF 1) nilF)) (opF subD (varF 9) (varF 10))) (consF (varF 1) nilF))) [some (.ref c.S), some Kd.num.d, some Kd.tru.d, some Kd.row.d, some Kd.pair.d, some (.ref n), x, y, some (.str p.1), some (.int p.2.1), some (.int p.2.2), a4, none, none, none, none] s) fun d s' => d = (Kd.fn (p.2.1 - p.2.2).toNat).d ∧ s' = s := by
        simp only [List.map_cons, List.map_nil, List.length_cons, List.length_nil, List.cons_append, List.nil_append, List.replicate, List.set_cons_zero, List.set_cons_succ, seq_set, seq_ret, seq_expr, seq_next, seq_if, seq_asg, seq_seq, seq_cnt, oks_set, oks_ret, oks_expr, oks_next, oks_cnt, oks_if', oks_asg, ok_op, ok_un, ok_c, ok_nil, ok_cons, ok_tup, ok_lst, ok_var0, ok_varS, ok_call, ok_tst, ok_and, ok_or, ok_not, ok_meth, ok_bind, ok_some, ok_ite, ok_mapv, add_ii, add_tt, add_rr, sub_ii, mul_ii, mul_ri, mod_ii, fdiv_ii, pow_ii, lt_ii, get_ti, get_ri, get_rs, len_t, len_r, abs_i, int_b, list_t, list_r, tuple_t, tuple_r, dict_r, is_n, in_t, in_r, addI_ii, subI_ii, min_ii, append_r, key_i, key_s, eq_int, D.bl.injEq, exists_eq_left, exists_eq_left', exists_eq_right, exists_eq_right', exists_eq', Option.some.injEq, decide_eq_true_eq, decide_eq_false_iff_not, Bool.false_eq_true, if_false, if_true, reduceCtorEq, false_implies, true_implies, true_and, and_true, forall_const, imp_self, Bool.not_true, Bool.not_false, Bool.not_eq_true', Bool.not_eq_false', not_true_eq_false, not_false_eq_true, not_true_eq_false, not_false_eq_true, at_lit0, at_lit1, at_lit2, at_lit3, at_lit4, at_lit5, List.length_replicate, m1, z3, z1]
        rfl
      obtain ⟨d, s', e, rfl, rfl⟩ := q
      exact e
    generalize hm : (p.2.1 - p.2.2).toNat = m at *
    have afn : AOk c (.k (.fn m)) := ⟨p, hpm, by omega⟩
    have nk : ∀ n : Nat, ∀ a ∈ List.replicate n (Ak.k Kd.num), AOk c a := fun n a ha => by rw [List.eq_of_mem_replicate ha]; trivial
    have mr : ∀ n : Nat, (List.replicate n (Ak.k Kd.num)).map Ak.d = List.replicate n Kd.num.d := fun n => by rw [List.map_replicate]; rfl
    refine seq_ops (hi' := 4) hJ rfl (mul_ops [⟨"call", List.replicate p.2.1.toNat (.k .num), some .num, .tup [.str p.1]⟩, ⟨"close", List.replicate p.2.2.toNat (.k .num), some (.fn m), .tup [.str p.1]⟩] 2 (by simp) (by decide) (by decide) (by simp) ?_ (fun o ho => ?_)) (by omega) fun s' n' hJ' f' => ?_
    · show Ok (consF (tupF (consF (cF (.str "call")) (consF (opF mulD (tupF (consF (varF 1) nilF)) (varF 9)) (consF (varF 1) (consF (tupF (consF (varF 8) nilF)) nilF))))) (consF (tupF (consF (cF (.str "close")) (consF (opF mulD (tupF (consF (varF 1) nilF)) (varF 10)) (consF (varF 11) (consF (tupF (consF (varF 8) nilF)) nilF))))) nilF) [some (.ref c.S), some Kd.num.d, some Kd.tru.d, some Kd.row.d, some Kd.pair.d, some (.ref n), x, y, some (.str p.1), some (.int p.2.1), some (.int p.2.2), some (Kd.fn m).d, none, none, none, none] s) _
      simp only [List.map_cons, List.map_nil, List.length_cons, List.length_nil, List.cons_append, List.nil_append, List.replicate, List.set_cons_zero, List.set_cons_succ, seq_set, seq_ret, seq_expr, seq_next, seq_if, seq_asg, seq_seq, seq_cnt, oks_set, oks_ret, oks_expr, oks_next, oks_cnt, oks_if', oks_asg, ok_op, ok_un, ok_c, ok_nil, ok_cons, ok_tup, ok_lst, ok_var0, ok_varS, ok_call, ok_tst, ok_and, ok_or, ok_not, ok_meth, ok_bind, ok_some, ok_ite, ok_mapv, add_ii, add_tt, add_rr, sub_ii, mul_ii, mul_ri, mod_ii, fdiv_ii, pow_ii, lt_ii, get_ti, get_ri, get_rs, len_t, len_r, abs_i, int_b, list_t, list_r, tuple_t, tuple_r, dict_r, is_n, in_t, in_r, addI_ii, subI_ii, min_ii, append_r, key_i, key_s, eq_int, D.bl.injEq, exists_eq_left, exists_eq_left', exists_eq_right, exists_eq_right', exists_eq', Option.some.injEq, decide_eq_true_eq, decide_eq_false_iff_not, Bool.false_eq_true, if_false, if_true, reduceCtorEq, false_implies, true_implies, true_and, and_true, forall_const, imp_self, Bool.not_true, Bool.not_false, Bool.not_eq_true', Bool.not_eq_false', not_true_eq_false, not_false_eq_true, not_true_eq_false, not_false_eq_true, at_lit0, at_lit1, at_lit2, at_lit3, at_lit4, at_lit5, List.length_replicate, m2, m3, z4, z1, Op.d, mr]
      rfl
    · simp only [List.mem_cons, List.not_mem_nil, or_false] at ho
      rcases ho with rfl | rfl
      · exact ⟨nk _, by show (List.replicate _ _).length ≤ 10; rw [List.length_replicate]; omega⟩
      · exact ⟨nk _, by show (List.replicate _ _).length ≤ 10; rw [List.length_replicate]; omega⟩
    refine set_ops (hi' := 2) hJ' rfl (mul_ops [⟨"ask", .k (.fn m) :: List.replicate m (.k .num), some .num, .tup []⟩] 2 (by simp) (by decide) (by decide) (by simp) ?_ (fun o ho => ?_)) (by omega) fun s2 n2 hJ2 f2 => ⟨n2, _, _, _, _, _, _, rfl, hJ2.mono (by omega), (f.trans f' fun i q => by cases q).trans f2 fun i q => by cases q⟩
    · show Ok (consF (tupF (consF (cF (.str "ask")) (consF (opF addD (tupF (consF (varF 11) nilF)) (opF getD (varF 11) (cF (.int 1)))) (consF (varF 1) (consF (tupF nilF) nilF))))) nilF [some (.ref c.S), some Kd.num.d, some Kd.tru.d, some Kd.row.d, some Kd.pair.d, some (.ref n'), x, y, some (.str p.1), some (.int p.2.1), some (.int p.2.2), some (Kd.fn m).d, none, none, none, none] s') _
      have gf : ∀ s : Sto, getD (Kd.fn m).d (.int 1) s = some (.tup (List.replicate m Kd.num.d), s) := fun _ => rfl
      have z5 : 0 + 1 + m ≤ SZ := by omega
      have z0 : 0 ≤ SZ := by decide
      simp only [List.map_cons, List.map_nil, List.length_cons, List.length_nil, List.cons_append, List.nil_append, List.replicate, List.set_cons_zero, List.set_cons_succ, seq_set, seq_ret, seq_expr, seq_next, seq_if, seq_asg, seq_seq, seq_cnt, oks_set, oks_ret, oks_expr, oks_next, oks_cnt, oks_if', oks_asg, ok_op, ok_un, ok_c, ok_nil, ok_cons, ok_tup, ok_lst, ok_var0, ok_varS, ok_call, ok_tst, ok_and, ok_or, ok_not, ok_meth, ok_bind, ok_some, ok_ite, ok_mapv, add_ii, add_tt, add_rr, sub_ii, mul_ii, mul_ti, mul_ri, mod_ii, fdiv_ii, pow_ii, lt_ii, get_ti, get_ri, get_rs, len_t, len_r, abs_i, int_b, list_t, list_r, tuple_t, tuple_r, dict_r, is_n, in_t, in_r, addI_ii, subI_ii, min_ii, append_r, key_i, key_s, eq_int, D.bl.injEq, exists_eq_left, exists_eq_left', exists_eq_right, exists_eq_right', exists_eq', Option.some.injEq, decide_eq_true_eq, decide_eq_false_iff_not, Bool.false_eq_true, if_false, if_true, reduceCtorEq, false_implies, true_implies, true_and, and_true, forall_const, imp_self, Bool.not_true, Bool.not_false, Bool.not_eq_true', Bool.not_eq_false', not_true_eq_false, not_false_eq_true, not_true_eq_false, not_false_eq_true, at_lit0, at_lit1, at_lit2, at_lit3, at_lit4, at_lit5, List.length_replicate, gf, z4, z1, z0, z5, Op.d, mr]
      rfl
    · simp only [List.mem_cons, List.not_mem_nil, or_false] at ho
      subst ho
      refine ⟨fun a ha => ?_, by show (Ak.k (Kd.fn m) :: List.replicate m (Ak.k Kd.num)).length ≤ 10; rw [List.length_cons, List.length_replicate]; omega⟩
      rcases List.mem_cons.mp ha with rfl | ha
      · exact afn
      · exact nk _ a ha
  rintro e s ⟨n, x, y, a1, a2, a3, a4, rfl, hJ, f0⟩
  rw [List.length_map] at hJ ⊢
  refine ⟨?_, oks_ret.mpr ?_⟩
  · show (s.seq c.C).map (fun xs => xs[c.calls.length]?) = _
    rw [seq_get (f0.keep h.C (by simp))]
    simp
  · refine ok_some.mpr (hG n s ?_ f0)
    obtain ⟨os, h1, h2, h3, h4⟩ := hJ
    exact ⟨os, h1, by omega, by omega, h4⟩
theorem ops_ok (hF : FxOk c) (h : At c g st) {G : D → Sto → Prop} (hG : ∀ n s, J c s n 1 1000 → Fm [] st s → G (.ref n) s) : Ok (Hd.runs (k + 1) 12 [.ref c.S] st) G := by
  show Ok (bodyD _ (Hd.b__law_ops (Hd.runs k)) _ st) G
  refine ok_body ?_
  unfold Hd.b__law_ops
  have z : SZ = 16777216 := by decide
  have nn : AOk c (.k .num) := trivial
  have nt : AOk c (.k .tru) := trivial
  have nr : AOk c (.k .row) := trivial
  have np : AOk c (.k .pair) := trivial
  have nf : AOk c .few := trivial
  have ok0 : ∀ op kd more, OpOk c ⟨op, [], kd, more⟩ := fun _ _ _ => ⟨by simp, by simp⟩
  have ok1 : ∀ op kd more a, AOk c a → OpOk c ⟨op, [a], kd, more⟩ := fun _ _ _ a ha => ⟨by simpa using ha, by simp⟩
  have ok2 : ∀ op kd more a b, AOk c a → AOk c b → OpOk c ⟨op, [a, b], kd, more⟩ := fun _ _ _ a b ha hb => ⟨by simp [ha, hb], by simp⟩
  have ok3 : ∀ op kd more a b d, AOk c a → AOk c b → AOk c d → OpOk c ⟨op, [a, b, d], kd, more⟩ := fun _ _ _ a b d ha hb hd => ⟨by simp [ha, hb, hd], by simp⟩
  refine seq_asg.mpr ⟨.tup [Kd.num.d, Kd.tru.d, Kd.row.d, Kd.pair.d], st, rfl, _, st, rfl, ?_⟩
  have pure0 : ∀ {fs : M (List D)} {env : Dn.Env} {os : List Op} {s : Sto}, fs env s = some (os.map Op.d, s) → Ok (fs env s) fun ds s' => ds = os.map Op.d ∧ s' = s := fun e => ⟨_, _, e, rfl, rfl⟩
  refine seq_set.mpr ((lc_ops (c := c) (lo := 6) (hi := 6) (enc := D.str) ["+", "-", "*", "+", "div", "rem"] (fun x => ⟨x, [.k .num, .k .num], some .num, .tup []⟩) (Nat.le_refl _) (Nat.le_refl _) (by decide) rfl (fun x _ => ok2 _ _ _ _ _ nn nn) (fun x _ s => rfl)).imp fun d s ⟨n0, e, hJ, f0⟩ => ?_)
  subst e
  refine seq_ops hJ rfl (lc_ops (hi := 2) (enc := D.str) ["<", "="] (fun x => ⟨x, [.k .num, .k .num], some .tru, .tup []⟩) (Nat.zero_le _) (Nat.le_refl _) (by decide) rfl (fun x _ => ok2 _ _ _ _ _ nn nn) (fun x _ s => rfl)) (by decide) fun s n hJ f => ?_
  replace f0 := f0.trans f fun i q => by cases q
  refine seq_ops2 hJ rfl (lc_ops (hi := 2) (enc := D.str) ["and", "or"] (fun x => ⟨x, [.k .tru, .k .tru], some .tru, .tup []⟩) (Nat.zero_le _) (Nat.le_refl _) (by decide) rfl (fun x _ => ok2 _ _ _ _ _ nt nt) (fun x _ s => rfl))
    (fun s' _ => lst_ops (hi := 1) [⟨"not", [.k .tru], some .tru, .tup []⟩] (Nat.le_refl _) (by decide) (pure0 rfl) (fun o ho => by simp only [List.mem_cons, List.not_mem_nil, or_false] at ho; subst ho; exact ok1 _ _ _ _ nt)) (by decide) fun s n hJ f => ?_
  replace f0 := f0.trans f fun i q => by cases q
  refine seq_ops hJ rfl (lc_ops (hi := 2) (enc := D.bl) [true, false] (fun x => ⟨"truth", [], some .tru, .tup [.bl x]⟩) (Nat.zero_le _) (Nat.le_refl _) (by decide) rfl (fun x _ => ok0 _ _ _) (fun x _ s => rfl)) (by decide) fun s n hJ f => ?_
  replace f0 := f0.trans f fun i q => by cases q
  refine seq_ops hJ rfl (lc_ops (hi := 8) (enc := D.int) [-1, 0, 1, 2, 60, 61, 2147483647, -2147483648] (fun x => ⟨"number", [], some .num, .tup [.int x]⟩) (Nat.zero_le _) (Nat.le_refl _) (by decide) rfl (fun x _ => ok0 _ _ _) (fun x _ s => rfl)) (by decide) fun s n hJ f => ?_
  replace f0 := f0.trans f fun i q => by cases q
  refine seq_ops hJ rfl (lst_ops (hi := 3) [⟨"fill", [.few, .k .num], some .row, .tup []⟩, ⟨"fill", [.k .num, .k .num], some .row, .tup []⟩, ⟨"long", [.k .row], some .num, .tup []⟩] (Nat.le_refl _) (by decide) (pure0 rfl) (fun o ho => by
    simp only [List.mem_cons, List.not_mem_nil, or_false] at ho
    rcases ho with rfl | rfl | rfl
    · exact ok2 _ _ _ _ _ nf nn
    · exact ok2 _ _ _ _ _ nn nn
    · exact ok1 _ _ _ _ nr)) (by decide) fun s n hJ f => ?_
  replace f0 := f0.trans f fun i q => by cases q
  refine seq_ops hJ rfl (lc_ops (hi := 2) (enc := Ak.d) [.few, .k .num] (fun x => ⟨"get", [.k .row, x], some .num, .tup []⟩) (Nat.zero_le _) (Nat.le_refl _) (by decide) rfl (fun x hx => ok2 _ _ _ _ _ nr (by simp only [List.mem_cons, List.not_mem_nil, or_false] at hx; rcases hx with rfl | rfl <;> trivial)) (fun x _ s => rfl)) (by decide) fun s n hJ f => ?_
  replace f0 := f0.trans f fun i q => by cases q
  refine seq_ops hJ rfl (lc_ops (hi := 2) (enc := Ak.d) [.few, .k .num] (fun x => ⟨"set", [.k .row, x, .k .num], none, .tup []⟩) (Nat.zero_le _) (Nat.le_refl _) (by decide) rfl (fun x hx => ok3 _ _ _ _ _ _ nr (by simp only [List.mem_cons, List.not_mem_nil, or_false] at hx; rcases hx with rfl | rfl <;> trivial) nn) (fun x _ s => rfl)) (by decide) fun s n hJ f => ?_
  replace f0 := f0.trans f fun i q => by cases q
  have hS := f0.keep h.S (by simp)
  have fk : ∀ a ∈ c.fi.map Ak.k, AOk c a := fun a ha => by
    obtain ⟨k, hk, rfl⟩ := List.mem_map.mp ha
    rcases hF.fi k hk with rfl | rfl <;> trivial
  have hfl := hF.fl
  refine seq_ops2 (hi' := 1) (m := 4) hJ rfl (lst_ops [⟨"make", c.fi.map Ak.k, some .pair, .tup [.str "pair"]⟩] (Nat.le_refl _) (by decide) (by
      have z4 : 4 ≤ SZ := by decide
      have z1 : 1 ≤ SZ := by decide
      have e : List.map Ak.d (c.fi.map Ak.k) = c.fi.map Kd.d := by rw [List.map_map]; rfl
      simp only [List.map_cons, List.map_nil, List.length_cons, List.length_nil, List.cons_append, List.nil_append, List.replicate, List.set_cons_zero, List.set_cons_succ, seq_set, seq_ret, seq_expr, seq_next, seq_if, seq_asg, seq_seq, seq_cnt, oks_set, oks_ret, oks_expr, oks_next, oks_cnt, oks_if', oks_asg, ok_op, ok_un, ok_c, ok_nil, ok_cons, ok_tup, ok_lst, ok_var0, ok_varS, ok_call, ok_tst, ok_and, ok_or, ok_not, ok_meth, ok_bind, ok_some, ok_ite, ok_mapv, add_ii, add_tt, add_rr, sub_ii, mul_ii, mul_ti, mul_ri, mod_ii, fdiv_ii, pow_ii, lt_ii, get_ti, get_ri, get_rs, len_t, len_r, abs_i, int_b, list_t, list_r, tuple_t, tuple_r, dict_r, is_n, in_t, in_r, addI_ii, subI_ii, min_ii, append_r, key_i, key_s, eq_int, D.bl.injEq, exists_eq_left, exists_eq_left', exists_eq_right, exists_eq_right', exists_eq', Option.some.injEq, decide_eq_true_eq, decide_eq_false_iff_not, Bool.false_eq_true, if_false, if_true, reduceCtorEq, false_implies, true_implies, true_and, and_true, forall_const, imp_self, Bool.not_true, Bool.not_false, Bool.not_eq_true', Bool.not_eq_false', not_true_eq_false, not_false_eq_true, not_true_eq_false, not_false_eq_true, at_lit0, at_lit1, at_lit2, at_lit3, at_lit4, at_lit5, List.length_replicate, hS, st_fields, Nat.reduceAdd, z4, z1, Op.d, e]
      rfl) (fun o ho => by
        simp only [List.mem_cons, List.not_mem_nil, or_false] at ho
        subst ho
        exact ⟨fk, by show (c.fi.map Ak.k).length ≤ 10; rw [List.length_map]; omega⟩))
    (fun s' _ => mul_ops (hi := 4) [⟨"tell", [.k .num], none, .tup []⟩] 4 (Nat.le_refl _) (by decide) (by decide) (by decide) (pure0 rfl) (fun o ho => by simp only [List.mem_cons, List.not_mem_nil, or_false] at ho; subst ho; exact ok1 _ _ _ _ nn)) (by decide) fun s n hJ f => ?_
  replace f0 := f0.trans f fun i q => by cases q
  have hS := f0.keep h.S (by simp)
  exact ops_end hF h (hJ.mono (by decide)) f0 hG
end
end Mw
/-! Straight rows; a block opened, begun, ended. -/
namespace Mw
open PySem PySem.Spec PyProof.Rows L2 Dn
section
variable {c : Fx} {g g' : Gs} {st s : Sto} {k : Nat}
theorem PotAt.fm {W : List Nat} (h : PotAt c.P c.Cl c.cells st) (f : Fm W st s) (h1 : c.P ∉ W) (h2 : c.Cl ∉ W) : PotAt c.P c.Cl c.cells s := by
  obtain ⟨a, l, m, mx, p1, _, _, _, p2⟩ := id h
  exact h.of (f.get _ (Sto.get_lt p1) h1) (f.get _ (Sto.get_lt p2) h2)
theorem At.fm0 (h : At c g st) (f : Fm [] st s) : At c g s := h.fm f (fun i q => by cases q) (h.P.fm f (by simp) (by simp))
theorem ops_ne (h : At c g st) {n : Nat} {o : Op} {os : List Op} (e : st.get n = some (.lst ((o :: os).map Op.d))) : n ≠ c.S ∧ n ≠ c.P ∧ n ≠ g.R ∧ n ≠ g.E := by
  refine ⟨neS h e, h.P.ne e, ?_, ?_⟩
  · rintro rfl
    have := h.R
    rw [e] at this
    cases hr : g.rs with
    | nil => rw [hr] at this; cases this
    | cons r rs =>
      rw [hr] at this
      injection this with this
      injection this with this
      rw [List.map_cons, List.map_cons] at this
      injection this with this _
      unfold Op.d Rw.d at this
      injection this with this
      have := congrArg List.length this
      simp at this
  · rintro rfl
    have := h.E
    rw [e] at this
    cases hr : g.en with
    | nil => rw [hr] at this; cases this
    | cons r rs =>
      rw [hr] at this
      injection this with this
      injection this with this
      rw [List.map_cons, List.map_cons] at this
      injection this with this _
      unfold Op.d pD at this
      injection this with this
      have := congrArg List.length this
      simp at this
theorem straight_ok (hF : FxOk c) (h : At c g st) (hE : GE g) (hL : Lim 500 g) {G : D → Sto → Prop} (hG : ∀ s g', At c g' s → Gr 500 g g' → Fm [c.S, c.P, g.R, g.E] st s → G .non s) : Ok (Hd.runs (k + 5) 15 [.ref c.S, .ref c.P] st) G := by
  show Ok (bodyD _ (Hd.b__law_straight (Hd.runs (k + 4))) _ st) G
  refine ok_body ?_
  unfold Hd.b__law_straight
  refine seq_set.mpr (ok_call.mpr ⟨_, st, rfl, rfl, ops_ok hF h fun n s1 hJ f1 => ?_⟩)
  obtain ⟨os, o1, o2, o3, o4⟩ := hJ
  have A1 := h.fm0 f1
  cases os with
  | nil => simp at o2
  | cons o os =>
    have hn := ops_ne A1 o1
    have hnW : n ∉ [c.S, c.P, g.R, g.E] := by
      simp only [List.mem_cons, List.not_mem_nil, or_false, not_or]
      exact hn
    show OkS (forS _ _ _ [some (.ref c.S), some (.ref c.P), some (.ref n), none, none, none, none, none, none] s1) _
    refine oks_for ?_
    -- how many
    have htk : Ok (rng1I (opF addD (cF (.int 1)) (callF 2 (Hd.runs (k + 4) 11) (consF (varF 1) (consF (cF (.int 4)) nilF)))) [some (.ref c.S), some (.ref c.P), some (.ref n), none, none, none, none, none, none] s1) fun src s2 => ∃ m : Nat, m ≤ 4 ∧ src = .rng 0 m ∧ At c g s2 ∧ Fm [c.P] s1 s2 := by
      refine oki_rng1 ?_
      simp only [List.map_cons, List.map_nil, List.length_cons, List.length_nil, List.cons_append, List.nil_append, List.replicate, List.set_cons_zero, List.set_cons_succ, seq_set, seq_ret, seq_expr, seq_next, seq_if, seq_asg, seq_seq, seq_cnt, oks_set, oks_ret, oks_expr, oks_next, oks_cnt, oks_if', oks_asg, ok_op, ok_un, ok_c, ok_nil, ok_cons, ok_tup, ok_lst, ok_var0, ok_varS, ok_call, ok_tst, ok_and, ok_or, ok_not, ok_meth, ok_bind, ok_some, ok_ite, ok_mapv, add_ii, add_tt, add_rr, sub_ii, mul_ii, mul_ti, mul_ri, mod_ii, fdiv_ii, pow_ii, lt_ii, get_ti, get_ri, get_rs, len_t, len_r, abs_i, int_b, list_t, list_r, tuple_t, tuple_r, dict_r, is_n, in_t, in_r, addI_ii, subI_ii, min_ii, append_r, key_i, key_s, eq_int, D.bl.injEq, exists_eq_left, exists_eq_left', exists_eq_right, exists_eq_right', exists_eq', Option.some.injEq, decide_eq_true_eq, decide_eq_false_iff_not, Bool.false_eq_true, if_false, if_true, reduceCtorEq, false_implies, true_implies, true_and, and_true, forall_const, imp_self, Bool.not_true, Bool.not_false, Bool.not_eq_true', Bool.not_eq_false', not_true_eq_false, not_false_eq_true, not_true_eq_false, not_false_eq_true, at_lit0, at_lit1, at_lit2, at_lit3, at_lit4, at_lit5, List.length_replicate]
      refine takeA A1 (by decide) (by decide) fun s i i0 i1 hA' f z => ?_
      simp only [List.map_cons, List.map_nil, List.length_cons, List.length_nil, List.cons_append, List.nil_append, List.replicate, List.set_cons_zero, List.set_cons_succ, seq_set, seq_ret, seq_expr, seq_next, seq_if, seq_asg, seq_seq, seq_cnt, oks_set, oks_ret, oks_expr, oks_next, oks_cnt, oks_if', oks_asg, ok_op, ok_un, ok_c, ok_nil, ok_cons, ok_tup, ok_lst, ok_var0, ok_varS, ok_call, ok_tst, ok_and, ok_or, ok_not, ok_meth, ok_bind, ok_some, ok_ite, ok_mapv, add_ii, add_tt, add_rr, sub_ii, mul_ii, mul_ti, mul_ri, mod_ii, fdiv_ii, pow_ii, lt_ii, get_ti, get_ri, get_rs, len_t, len_r, abs_i, int_b, list_t, list_r, tuple_t, tuple_r, dict_r, is_n, in_t, in_r, addI_ii, subI_ii, min_ii, append_r, key_i, key_s, eq_int, D.bl.injEq, exists_eq_left, exists_eq_left', exists_eq_right, exists_eq_right', exists_eq', Option.some.injEq, decide_eq_true_eq, decide_eq_false_iff_not, Bool.false_eq_true, if_false, if_true, reduceCtorEq, false_implies, true_implies, true_and, and_true, forall_const, imp_self, Bool.not_true, Bool.not_false, Bool.not_eq_true', Bool.not_eq_false', not_true_eq_false, not_false_eq_true, not_true_eq_false, not_false_eq_true, at_lit0, at_lit1, at_lit2, at_lit3, at_lit4, at_lit5, List.length_replicate]
      exact ⟨_, rfl, by omega, by omega, _, by omega, rfl, hA', f⟩
    refine htk.imp fun src s2 ⟨m, hm, e, A2, f2⟩ => ?_
    subst e
    have q2 : s2.get n = some (.lst ((o :: os).map Op.d)) := f2.keep o1 (by
      simp only [List.mem_cons, List.not_mem_nil, or_false]
      exact hn.2.1)
    have f02 : Fm [c.S, c.P, g.R, g.E] st s2 := (f1.mono (fun i q => by cases q)).trans f2 fun i q => .inl (by
      simp only [List.mem_cons, List.not_mem_nil, or_false] at q ⊢
      simp [q])
    refine ⟨(List.range m).map fun i => .int (0 + (i : Nat)), fun i e s => ∃ g' a3 a4 a5 a6 a7 a8, e = [some (.ref c.S), some (.ref c.P), some (.ref n), a3, a4, a5, a6, a7, a8] ∧ At c g' s ∧ Gr (110 * i) g g' ∧ Fm [c.S, c.P, g.R, g.E] st s ∧ s.get n = some (.lst ((o :: os).map Op.d)), pure_rng.2 s2, ⟨g, _, _, _, _, _, _, rfl, A2, by simpa using Gr.refl, f02, q2⟩, ?_, ?_⟩
    · rintro i e s d hd ⟨g1, a3, a4, a5, a6, a7, a8, rfl, hA, hg, hf, hq⟩
      have hi : i < m := by
        have := (List.getElem?_eq_some_iff.mp hd).1
        simpa using this
      have hE1 := hE.gr hg
      have hL1 : Lim 110 g1 := (Lim.gr (n := 110 * (i : Int)) (m := 110) (hL.mono (by omega)) hg)
      refine ⟨by rw [pure_rng.1, hd], _, s, rfl, ?_⟩
      show OkS (seqS _ _ [some (.ref c.S), some (.ref c.P), some (.ref n), some d, a4, a5, a6, a7, a8] s) _
      have ol : ((o :: os).length : Int) < 1073741824 := by omega
      have ol1 : (1 : Int) ≤ (o :: os).length := by rw [List.length_cons]; omega
      simp only [seq_asg, ok_op, ok_var0, ok_varS, ok_call, ok_cons, ok_nil, ok_un, len_r, hq, ok_some, List.length_map, true_and]
      refine ⟨rfl, takeA hA ol1 ol fun s3 j j0 j1 A3 f3 z3 => ?_⟩
      have q3 : s3.get n = some (.lst ((o :: os).map Op.d)) := f3.keep hq (by
        simp only [List.mem_cons, List.not_mem_nil, or_false]
        exact hn.2.1)
      obtain ⟨x, hx, hx2⟩ := atI_ge (xs := (o :: os).map Op.d) (i := j) j0 (by rw [List.length_map]; exact j1)
      rw [List.getElem?_map] at hx2
      obtain ⟨p, hp, rfl⟩ := mapS hx2
      have hpo := o4 p (List.mem_of_getElem? hp)
      rw [get_ri, q3]
      simp only [ok_mapv]
      refine ⟨_, hx, _, s3, rfl, ?_⟩
      show OkS (ifS _ _ _ [some (.ref c.S), some (.ref c.P), some (.ref n), some d, some (.str p.op), some (.tup (p.ks.map Ak.d)), some (oK p.kd), some p.more, a8] s3) _
      have f33 : Fm [c.S, c.P, g.R, g.E] st s3 := hf.trans f3 fun i q => .inl (by
        simp only [List.mem_cons, List.not_mem_nil, or_false] at q ⊢
        simp [q])
      have hW : [c.S, c.P, g1.R, g1.E] = [c.S, c.P, g.R, g.E] := by rw [hg.R, hg.E]
      simp only [List.map_cons, List.map_nil, List.length_cons, List.length_nil, List.cons_append, List.nil_append, List.replicate, List.set_cons_zero, List.set_cons_succ, seq_set, seq_ret, seq_expr, seq_next, seq_if, seq_asg, seq_seq, seq_cnt, oks_set, oks_ret, oks_expr, oks_next, oks_cnt, oks_if', oks_asg, ok_op, ok_un, ok_c, ok_nil, ok_cons, ok_tup, ok_lst, ok_var0, ok_varS, ok_call, ok_tst, ok_and, ok_or, ok_not, ok_meth, ok_bind, ok_some, ok_ite, ok_mapv, add_ii, add_tt, add_rr, sub_ii, mul_ii, mul_ti, mul_ri, mod_ii, fdiv_ii, pow_ii, lt_ii, get_ti, get_ri, get_rs, len_t, len_r, abs_i, int_b, list_t, list_r, tuple_t, tuple_r, dict_r, is_n, in_t, in_r, addI_ii, subI_ii, min_ii, append_r, key_i, key_s, eq_int, D.bl.injEq, exists_eq_left, exists_eq_left', exists_eq_right, exists_eq_right', exists_eq', Option.some.injEq, decide_eq_true_eq, decide_eq_false_iff_not, Bool.false_eq_true, if_false, if_true, reduceCtorEq, false_implies, true_implies, true_and, and_true, forall_const, imp_self, Bool.not_true, Bool.not_false, Bool.not_eq_true', Bool.not_eq_false', not_true_eq_false, not_false_eq_true, not_true_eq_false, not_false_eq_true, at_lit0, at_lit1, at_lit2, at_lit3, at_lit4, at_lit5, List.length_replicate, A3.S, st_line, st_most]
      refine ⟨fun _ => ?_, fun _ => ⟨g1, _, _, _, _, _, _, rfl, A3, hg.mono (by omega), f33, q3⟩⟩
      refine names_lc (k := k + 4) (m := 10) (bs := p.ks) hF A3 hE1 (by decide) (hL1.mono (by have := hpo.2; omega)) (by have h1 := hpo.2; have h2 : SZ = 16777216 := (by decide); omega) (fun b hb => ⟨hpo.1 b hb, name_ok⟩) ⟨.tup (p.ks.map Ak.d), p.ks.map Ak.d, rfl, by simp, pure_tup, fun i x b hx hb s => ⟨_, rfl, rfl, fun Q q => ?_⟩⟩ fun s4 g4 is A4 hg4 hl hx4 hq4 hf4 => ?_
      · rw [List.getElem?_map, hb] at hx
        cases hx
        simp only [List.map_cons, List.map_nil, List.length_cons, List.length_nil, List.cons_append, List.nil_append, List.replicate, List.set_cons_zero, List.set_cons_succ, seq_set, seq_ret, seq_expr, seq_next, seq_if, seq_asg, seq_seq, seq_cnt, oks_set, oks_ret, oks_expr, oks_next, oks_cnt, oks_if', oks_asg, ok_op, ok_un, ok_c, ok_nil, ok_cons, ok_tup, ok_lst, ok_var0, ok_varS, ok_call, ok_tst, ok_and, ok_or, ok_not, ok_meth, ok_bind, ok_some, ok_ite, ok_mapv, add_ii, add_tt, add_rr, sub_ii, mul_ii, mul_ti, mul_ri, mod_ii, fdiv_ii, pow_ii, lt_ii, get_ti, get_ri, get_rs, len_t, len_r, abs_i, int_b, list_t, list_r, tuple_t, tuple_r, dict_r, is_n, in_t, in_r, addI_ii, subI_ii, min_ii, append_r, key_i, key_s, eq_int, D.bl.injEq, exists_eq_left, exists_eq_left', exists_eq_right, exists_eq_right', exists_eq', Option.some.injEq, decide_eq_true_eq, decide_eq_false_iff_not, Bool.false_eq_true, if_false, if_true, reduceCtorEq, false_implies, true_implies, true_and, and_true, forall_const, imp_self, Bool.not_true, Bool.not_false, Bool.not_eq_true', Bool.not_eq_false', not_true_eq_false, not_false_eq_true, not_true_eq_false, not_false_eq_true, at_lit0, at_lit1, at_lit2, at_lit3, at_lit4, at_lit5, List.length_replicate, wipeE]
        exact q
      · have hns := A3.new (n := s3.size) (Nat.le_refl _)
        have hle : 10 * (p.ks.length : Int) ≤ 100 := by have := hpo.2; omega
        refine put1 (hz := by have hs : SZ = 16777216 := (by decide); have h1 := hpo.2; omega) (k := k + 3) (kd := p.kd) (xs := is) (n := 1) A4 (hE1.gr hg4) (Lim.gr (n := 10 * (p.ks.length : Int)) (hL1.mono (by omega)) hg4) (Int.le_refl 1) (.inr ⟨_, rfl, hq4, by rw [hg4.E]; exact hns.2.2.2.1, by rw [hg4.R]; exact hns.2.2.1⟩) hx4 fun s5 g5 A5 hg5 eg hf5 z5 => ?_
        have f45 : Fm [c.S, c.P, g.R, g.E] s3 s5 := by
          rw [hW] at hf4
          exact hf4.trans hf5 fun i q => .inl (by rw [hg4.R, hg4.E, hW] at q; exact q)
        refine ⟨g5, _, _, _, _, _, _, rfl, A5, ((hg.trans hg4).trans hg5).mono (by omega), f33.trans f45 fun i q => .inl q, f45.keep q3 hnW⟩
    · rintro e s ⟨g1, a3, a4, a5, a6, a7, a8, rfl, hA, hg, hf, hq⟩
      rw [List.length_map, List.length_range] at *
      refine ⟨by rw [pure_rng.1]; simp, hG s g1 hA (hg.mono (by omega)) hf⟩
/-- a block opened -/
theorem open_ok (h : At c g st) (hz : g.bl.length < SZ) {G : D → Sto → Prop} (hG : ∀ s, At c { g with bl := g.bl ++ [none] } s → Fm [g.B] st s → s.size = st.size → G (.int g.bl.length) s) : Ok (Hd.runs (k + 1) 16 [.ref c.S] st) G := by
  show Ok (bodyD _ (Hd.b__law_open (Hd.runs k)) _ st) G
  refine ok_body ?_
  unfold Hd.b__law_open
  have hz' : (g.bl.map oB).length < SZ := by rw [List.length_map]; exact hz
  simp only [List.map_cons, List.map_nil, List.length_cons, List.length_nil, List.cons_append, List.nil_append, List.replicate, List.set_cons_zero, List.set_cons_succ, seq_set, seq_ret, seq_expr, seq_next, seq_if, seq_asg, seq_seq, seq_cnt, oks_set, oks_ret, oks_expr, oks_next, oks_cnt, oks_if', oks_asg, ok_op, ok_un, ok_c, ok_nil, ok_cons, ok_tup, ok_lst, ok_var0, ok_varS, ok_call, ok_tst, ok_and, ok_or, ok_not, ok_meth, ok_bind, ok_some, ok_ite, ok_mapv, add_ii, add_tt, add_rr, sub_ii, mul_ii, mul_ti, mul_ri, mod_ii, fdiv_ii, pow_ii, lt_ii, get_ti, get_ri, get_rs, len_t, len_r, abs_i, int_b, list_t, list_r, tuple_t, tuple_r, dict_r, is_n, in_t, in_r, addI_ii, subI_ii, min_ii, append_r, key_i, key_s, eq_int, D.bl.injEq, exists_eq_left, exists_eq_left', exists_eq_right, exists_eq_right', exists_eq', Option.some.injEq, decide_eq_true_eq, decide_eq_false_iff_not, Bool.false_eq_true, if_false, if_true, reduceCtorEq, false_implies, true_implies, true_and, and_true, forall_const, imp_self, Bool.not_true, Bool.not_false, Bool.not_eq_true', Bool.not_eq_false', not_true_eq_false, not_false_eq_true, not_true_eq_false, not_false_eq_true, at_lit0, at_lit1, at_lit2, at_lit3, at_lit4, at_lit5, List.length_replicate, h.S, st_blocks, h.B, isL_of h.B, hz']
  have hA := h.setB (g.bl ++ [none])
  have e : g.bl.map oB ++ [.non] = (g.bl ++ [none]).map oB := by rw [List.map_append]; rfl
  rw [e]
  have hS := hA.S
  have hB := hA.B
  simp only [] at hS hB
  have e2 : gD c { g with bl := g.bl ++ [none] } = stD g.B g.now g.R g.Pa g.E g.nx g.ln c.C g.bu c.fi c.mo := rfl
  rw [e2] at hS
  simp only [List.map_cons, List.map_nil, List.length_cons, List.length_nil, List.cons_append, List.nil_append, List.replicate, List.set_cons_zero, List.set_cons_succ, seq_set, seq_ret, seq_expr, seq_next, seq_if, seq_asg, seq_seq, seq_cnt, oks_set, oks_ret, oks_expr, oks_next, oks_cnt, oks_if', oks_asg, ok_op, ok_un, ok_c, ok_nil, ok_cons, ok_tup, ok_lst, ok_var0, ok_varS, ok_call, ok_tst, ok_and, ok_or, ok_not, ok_meth, ok_bind, ok_some, ok_ite, ok_mapv, add_ii, add_tt, add_rr, sub_ii, mul_ii, mul_ti, mul_ri, mod_ii, fdiv_ii, pow_ii, lt_ii, get_ti, get_ri, get_rs, len_t, len_r, abs_i, int_b, list_t, list_r, tuple_t, tuple_r, dict_r, is_n, in_t, in_r, addI_ii, subI_ii, min_ii, append_r, key_i, key_s, eq_int, D.bl.injEq, exists_eq_left, exists_eq_left', exists_eq_right, exists_eq_right', exists_eq', Option.some.injEq, decide_eq_true_eq, decide_eq_false_iff_not, Bool.false_eq_true, if_false, if_true, reduceCtorEq, false_implies, true_implies, true_and, and_true, forall_const, imp_self, Bool.not_true, Bool.not_false, Bool.not_eq_true', Bool.not_eq_false', not_true_eq_false, not_false_eq_true, not_true_eq_false, not_false_eq_true, at_lit0, at_lit1, at_lit2, at_lit3, at_lit4, at_lit5, List.length_replicate, hS, st_blocks, hB]
  have e3 : (((g.bl ++ [none]).map oB).length : Int) - 1 = g.bl.length := by
    rw [List.length_map, List.length_append]
    show ((g.bl.length + 1 : Nat) : Int) - 1 = _
    omega
  rw [e3]
  exact hG _ hA (Fm.set (.inl (by simp))) (Sto.size_set _ _ _)
/-- a block ended -/
theorem end_ok (h : At c g st) (en : En) (h0 : 0 ≤ g.now) (h1 : g.now < g.bl.length) {G : D → Sto → Prop} (hG : ∀ s, At c { g with bl := g.bl.set g.now.toNat (some ⟨g.pr, g.rs, en⟩) } s → Fm [g.B] st s → s.size = st.size → G .non s) : Ok (Hd.runs (k + 1) 18 [.ref c.S, en.d] st) G := by
  show Ok (bodyD _ (Hd.b__law_end (Hd.runs k)) _ st) G
  refine ok_body ?_
  unfold Hd.b__law_end
  have z3 : 0 + 1 + 1 + 1 ≤ SZ := by decide
  simp only [List.map_cons, List.map_nil, List.length_cons, List.length_nil, List.cons_append, List.nil_append, List.replicate, List.set_cons_zero, List.set_cons_succ, seq_set, seq_ret, seq_expr, seq_next, seq_if, seq_asg, seq_seq, seq_cnt, oks_set, oks_ret, oks_expr, oks_next, oks_cnt, oks_if', oks_asg, ok_op, ok_un, ok_c, ok_nil, ok_cons, ok_tup, ok_lst, ok_var0, ok_varS, ok_call, ok_tst, ok_and, ok_or, ok_not, ok_meth, ok_bind, ok_some, ok_ite, ok_mapv, add_ii, add_tt, add_rr, sub_ii, mul_ii, mul_ti, mul_ri, mod_ii, fdiv_ii, pow_ii, lt_ii, get_ti, get_ri, get_rs, len_t, len_r, abs_i, int_b, list_t, list_r, tuple_t, tuple_r, dict_r, is_n, in_t, in_r, addI_ii, subI_ii, min_ii, append_r, key_i, key_s, eq_int, D.bl.injEq, exists_eq_left, exists_eq_left', exists_eq_right, exists_eq_right', exists_eq', Option.some.injEq, decide_eq_true_eq, decide_eq_false_iff_not, Bool.false_eq_true, if_false, if_true, reduceCtorEq, false_implies, true_implies, true_and, and_true, forall_const, imp_self, Bool.not_true, Bool.not_false, Bool.not_eq_true', Bool.not_eq_false', not_true_eq_false, not_false_eq_true, not_true_eq_false, not_false_eq_true, at_lit0, at_lit1, at_lit2, at_lit3, at_lit4, at_lit5, List.length_replicate, h.S, st_params, st_rows, seq_get h.Pa, seq_get h.R, z3, sub_d, st_blocks, st_now]
  refine ⟨_, ?_, hG _ (h.setB (g.bl.set g.now.toNat (some ⟨g.pr, g.rs, en⟩))) (Fm.set (.inl (by simp))) (Sto.size_set _ _ _)⟩
  show (match st.get g.B with
    | some (.lst xs) => (ixN xs.length g.now).map fun j => st.set g.B (.lst (xs.set j (.tup [.tup (g.pr.map pD), .tup (g.rs.map Rw.d), en.d])))
    | some (.dic kvs) => (D.int g.now).key.bind fun k => if kvs.length < SZ then some (st.set g.B (.dic (kPut kvs k (.tup [.tup (g.pr.map pD), .tup (g.rs.map Rw.d), en.d])))) else none
    | _ => none) = _
  rw [h.B]
  simp only [List.length_map]
  have : ixN g.bl.length g.now = some g.now.toNat := by
    unfold ixN
    rw [if_pos h0, if_pos h1]
  rw [this, Option.map_some, List.map_set]
  rfl
end
end Mw
/-! A block begun. -/
namespace Mw
open PySem PySem.Spec PyProof.Rows L2 Dn
theorem set_set {s : Sto} {n : Nat} {a b : O} : (s.set n a).set n b = s.set n b := by
  unfold Sto.set
  simp
section
variable {st : Sto} {n : Nat} {kvs : List (Key × D)} {e : Dn.Env}
theorem sub0_eq {k : Str} {d : D} (h : st.get n = some (.dic kvs)) (hz : kvs.length < SZ) : subG (varF 0) (cF (.str k)) d (some (.ref n) :: e) st = some (some (.ref n) :: e, st.set n (.dic (kPut kvs (.inr k) d))) := by
  obtain ⟨e', s', h1, rfl, rfl⟩ := sub0 (Q := fun a b => a = some (.ref n) :: e ∧ b = st.set n (.dic (kPut kvs (.inr k) d))) h hz ⟨rfl, rfl⟩
  exact h1
theorem tup3_eq {k1 k2 k3 : Str} {d1 d2 d3 : D} (h : st.get n = some (.dic kvs)) (h1 : kvs.length < SZ) (h2 : (kPut kvs (.inr k1) d1).length < SZ) (h3 : (kPut (kPut kvs (.inr k1) d1) (.inr k2) d2).length < SZ) :
    tupG 3 (consG (subG (varF 0) (cF (.str k1))) (consG (subG (varF 0) (cF (.str k2))) (consG (subG (varF 0) (cF (.str k3))) nilG))) (.tup [d1, d2, d3]) (some (.ref n) :: e) st = some (some (.ref n) :: e, st.set n (.dic (kPut (kPut (kPut kvs (.inr k1) d1) (.inr k2) d2) (.inr k3) d3))) := by
  have hl := Sto.get_lt h
  show consG _ _ [d1, d2, d3] _ _ = _
  unfold consG
  simp only [sub0_eq h h1, Option.bind_some]
  rw [sub0_eq (Sto.get_set_same hl) h2]
  simp only [Option.bind_some, set_set]
  rw [sub0_eq (Sto.get_set_same hl) h3]
  simp only [Option.bind_some, set_set]
  rfl
theorem ok_zip {fs : M (List D)} {env : Dn.Env} {Q : D → Sto → Prop} (h : Ok (fs env st) fun ds s => ∃ a b xs ys, ds = [a, b] ∧ seqD a s = some xs ∧ seqD b s = some ys ∧ (xs.zip ys).length ≤ SZ ∧ Q (.ref s.size) (s.push (.lst ((xs.zip ys).map Dn.pairD)))) : Ok (zipLF fs env st) Q := by
  obtain ⟨ds, s, e, a, b, xs, ys, rfl, h1, h2, h3, q⟩ := h
  unfold zipLF
  rw [e, Option.bind_some]
  simp only [h1, h2, Option.bind_some]
  rw [if_pos h3]
  exact ok_some.mpr q
end
theorem rgL_eq (a b : Int) : rgL a b = (irange a b).map D.int := by
  unfold rgL irange
  rw [List.map_map]
  rfl
theorem irange_len {a b : Int} : (irange a b).length = (b - a).toNat := by unfold irange; simp
theorem zip_pD (is : List Int) (ks : List Kd) : ((is.map D.int).zip (ks.map Kd.d)).map Dn.pairD = (is.zip ks).map pD := by
  rw [List.zip_map, List.map_map]
  rfl
/-- the kinds that a block's params are given by -/
def KvOk (kv : D) (st : Sto) (ks : List Kd) : Prop := kv = .tup (ks.map Kd.d) ∨ ∃ n, kv = .ref n ∧ st.get n = some (.lst (ks.map Kd.d))
def Gs.begin (g : Gs) (at' : Int) (ks : List Kd) (R E Pa : Nat) : Gs :=
  { g with R := R, E := E, Pa := Pa, now := at', nx := g.nx + ks.length, rs := [], en := g.en ++ (irange g.nx (g.nx + ks.length)).zip ks, pr := (irange g.nx (g.nx + ks.length)).zip ks }
section
variable {c : Fx} {g g' : Gs} {st s : Sto} {k : Nat}
theorem KvOk.fm {kv : D} {ks : List Kd} (h : KvOk kv st ks) (hA : At c g st) (f : Fm [c.S] st s) : lenD kv s = some (.int ks.length, s) ∧ seqD kv s = some (ks.map Kd.d) := by
  rcases h with rfl | ⟨n, rfl, hn⟩
  · exact ⟨by rw [len_t, List.length_map], rfl⟩
  · have q : s.get n = some (.lst (ks.map Kd.d)) := f.keep hn (by
      simp only [List.mem_cons, List.not_mem_nil, or_false]
      exact neS hA hn)
    exact ⟨by rw [len_r, q]; simp only [List.length_map], seq_get q⟩
theorem begin_ok {at' : Int} {kv : D} {ks : List Kd} (h : At c g st) (hE : GE g) (hL : Lim ks.length g) (hk : KvOk kv st ks) {G : D → Sto → Prop}
    (hG : ∀ s nm R E Pa, At c (g.begin at' ks R E Pa) s → s.get nm = some (.lst ((irange g.nx (g.nx + ks.length)).map .int)) → st.size ≤ nm → st.size ≤ R → st.size ≤ E → st.size ≤ Pa → nm ≠ R → nm ≠ E → nm ≠ Pa → Fm [c.S] st s → G (.ref nm) s) : Ok (Hd.runs (k + 1) 17 [.ref c.S, .int at', kv] st) G := by
  show Ok (bodyD _ (Hd.b__law_begin (Hd.runs k)) _ st) G
  refine ok_body ?_
  unfold Hd.b__law_begin
  have hz : SZ = 16777216 := by decide
  have hnx := hE.nx
  have hL1 := hL.1
  have hel := hE.el
  have e0 : (g.nx + (ks.length : Int) - g.nx).toNat = ks.length := by omega
  -- the names
  have e1 : lstRgF (rg2F (opF getD (varF 0) (cF (.str "next"))) (opF addD (opF getD (varF 0) (cF (.str "next"))) (unF lenD (varF 2)))) [some (.ref c.S), some (.int at'), some kv, none] st = some (.ref st.size, st.push (.lst ((irange g.nx (g.nx + ks.length)).map .int))) := by
    unfold lstRgF rg2F
    rw [getS_eq h.S st_next]
    have e2 : opF addD (opF getD (varF 0) (cF (.str "next"))) (unF lenD (varF 2)) [some (.ref c.S), some (.int at'), some kv, none] st = some (.int (g.nx + ks.length), st) := by
      unfold opF
      have := getS_eq (env := [some (.int at'), some kv, none]) h.S st_next (key := "next")
      unfold opF at this
      rw [this]
      show ((unF lenD (varF 2)) _ st).bind _ = _
      have e3 : unF lenD (varF 2) [some (.ref c.S), some (.int at'), some kv, none] st = some (.int ks.length, st) := (hk.fm h .refl).1
      rw [e3]
      rfl
    simp only [e2, Option.bind_some]
    rw [if_pos (RgOk.of_le (by omega) (by omega) (by omega) (by omega)), rgL_eq]
  refine seq_set.mpr ⟨_, _, e1, ?_⟩
  show OkS (seqS _ _ [some (.ref c.S), some (.int at'), some kv, some (.ref st.size)] _) _
  generalize hs1 : st.push (.lst ((irange g.nx (g.nx + ks.length)).map .int)) = s1
  have z1 : s1.size = st.size + 1 := by rw [← hs1, Sto.size_push]
  have f1 : Fm [c.S] st s1 := by rw [← hs1]; exact Fm.push
  have q1 : s1.get st.size = some (.lst ((irange g.nx (g.nx + ks.length)).map .int)) := by rw [← hs1]; exact Sto.get_push_new
  refine seq_asg.mpr ?_
  simp only [ok_tup, ok_cons, ok_nil, ok_var0, ok_varS, ok_lst, List.length_nil]
  refine ⟨Nat.zero_le _, ok_zip ?_⟩
  simp only [ok_cons, ok_nil, ok_var0, ok_varS]
  generalize hs2 : s1.push (.lst []) = s2
  have z2 : s2.size = st.size + 2 := by rw [← hs2, Sto.size_push, z1]
  have f2 : Fm [c.S] st s2 := f1.trans (by rw [← hs2]; exact Fm.push (W := [])) fun i q => by cases q
  have q2 : s2.get st.size = some (.lst ((irange g.nx (g.nx + ks.length)).map .int)) := by rw [← hs2, Sto.get_push_lt (by omega)]; exact q1
  have r2 : s2.get s1.size = some (.lst []) := by rw [← hs2]; exact Sto.get_push_new
  refine ⟨_, _, _, _, rfl, seq_get q2, (hk.fm h f2).2, ?_, ?_⟩
  · rw [List.length_zip, List.length_map, List.length_map]; omega
  rw [zip_pD]
  generalize hzp : (irange g.nx (g.nx + ks.length)).zip ks = zp
  have hzl : zp.length = ks.length := by rw [← hzp, List.length_zip, irange_len, e0]; omega
  generalize hs3 : s2.push (.lst (zp.map pD)) = s3
  have z3 : s3.size = st.size + 3 := by rw [← hs3, Sto.size_push, z2]
  have f3 : Fm [c.S] st s3 := f2.trans (by rw [← hs3]; exact Fm.push (W := [])) fun i q => by cases q
  have q3 : s3.get st.size = some (.lst ((irange g.nx (g.nx + ks.length)).map .int)) := by rw [← hs3, Sto.get_push_lt (by omega)]; exact q2
  have r3 : s3.get s1.size = some (.lst []) := by rw [← hs3, Sto.get_push_lt (by omega)]; exact r2
  have p3 : s3.get s2.size = some (.lst (zp.map pD)) := by rw [← hs3]; exact Sto.get_push_new
  have hSlt := Sto.get_lt h.S
  have S3 : s3.get c.S = some (.dic (gD c g)) := by
    rw [← hs3, Sto.get_push_lt (by omega), ← hs2, Sto.get_push_lt (by omega), ← hs1, Sto.get_push_lt hSlt]; exact h.S
  refine ⟨(by show 3 ≤ SZ; decide), _, _, tup3_eq S3 st_len (by rw [st_snow]; exact st_len) (by rw [st_snow, st_srows]; exact st_len), ?_⟩
  rw [st_snow, st_srows, st_sparams]
  generalize hs4 : s3.set c.S (.dic (stD g.B at' s1.size s2.size g.E g.nx g.ln c.C g.bu c.fi c.mo)) = s4
  have z4 : s4.size = st.size + 3 := by rw [← hs4, Sto.size_set, z3]
  have g4 : ∀ i, i ≠ c.S → s4.get i = s3.get i := fun i hi => by rw [← hs4]; exact Sto.get_set_ne hi
  have S4 : s4.get c.S = some (.dic (stD g.B at' s1.size s2.size g.E g.nx g.ln c.C g.bu c.fi c.mo)) := by rw [← hs4]; exact Sto.get_set_same (Sto.get_lt S3)
  have f4 : Fm [c.S] st s4 := f3.trans (by rw [← hs4]; exact Fm.set (W := [c.S]) (.inl (by simp))) fun i q => .inl q
  have E4 : s4.get g.E = some (.lst (g.en.map pD)) := f4.keep h.E (by
    simp only [List.mem_cons, List.not_mem_nil, or_false]
    exact neS h h.E)
  have p4 : s4.get s2.size = some (.lst (zp.map pD)) := by rw [g4 _ (by omega)]; exact p3
  -- the names that may be used
  refine seq_asg.mpr ?_
  simp only [ok_op, ok_var0, ok_c, get_rs, S4, st_env, st_params, Option.map_some, ok_some, add_rr, E4, p4]
  rw [if_pos (by rw [List.length_map, List.length_map, hzl]; omega), ok_some, ← List.map_append]
  generalize hs5 : s4.push (.lst ((g.en ++ zp).map pD)) = s5
  have z5 : s5.size = st.size + 4 := by rw [← hs5, Sto.size_push, z4]
  have S5 : s5.get c.S = some (.dic (stD g.B at' s1.size s2.size g.E g.nx g.ln c.C g.bu c.fi c.mo)) := by rw [← hs5, Sto.get_push_lt (by omega)]; exact S4
  have f5 : Fm [c.S] st s5 := f4.trans (by rw [← hs5]; exact Fm.push (W := [])) fun i q => by cases q
  have e5 : s5.get s4.size = some (.lst ((g.en ++ zp).map pD)) := by rw [← hs5]; exact Sto.get_push_new
  refine sub0 S5 st_len ?_
  rw [st_senv]
  generalize hs6 : s5.set c.S (.dic (stD g.B at' s1.size s2.size s4.size g.nx g.ln c.C g.bu c.fi c.mo)) = s6
  have S6 : s6.get c.S = some (.dic (stD g.B at' s1.size s2.size s4.size g.nx g.ln c.C g.bu c.fi c.mo)) := by rw [← hs6]; exact Sto.get_set_same (Sto.get_lt S5)
  have f6 : Fm [c.S] st s6 := f5.trans (by rw [← hs6]; exact Fm.set (W := [c.S]) (.inl (by simp))) fun i q => .inl q
  refine oks_seq.mpr (oks_daug (n := c.S) (k := .inr "next") (x := .int g.nx) (s1 := s6) (s2 := s6) (kd := .str "next") rfl rfl S6 rfl st_next ?_)
  have el : (unF lenD (varF 2)) [some (.ref c.S), some (.int at'), some kv, some (.ref st.size)] s6 = some (.int ks.length, s6) := (hk.fm h f6).1
  refine ⟨_, _, el, ?_⟩
  simp only [addI_ii, ok_some]
  refine ⟨_, S6, st_len, ?_⟩
  rw [st_snext]
  show OkS (retS (varF 3) [some (.ref c.S), some (.int at'), some kv, some (.ref st.size)] _) _
  refine oks_ret.mpr (ok_some.mpr ?_)
  generalize hs7 : s6.set c.S (.dic (stD g.B at' s1.size s2.size s4.size (g.nx + ks.length) g.ln c.C g.bu c.fi c.mo)) = s7
  have g7 : ∀ i, i ≠ c.S → s7.get i = s5.get i := fun i hi => by rw [← hs7, Sto.get_set_ne hi, ← hs6, Sto.get_set_ne hi]
  have f7 : Fm [c.S] st s7 := f6.trans (by rw [← hs7]; exact Fm.set (W := [c.S]) (.inl (by simp))) fun i q => .inl q
  have g73 : ∀ i, i ≠ c.S → i < s4.size → s7.get i = s3.get i := fun i hi hl => by rw [g7 i hi, ← hs5, Sto.get_push_lt hl, g4 i hi]
  have old : ∀ {n : Nat} {xs : List D}, st.get n = some (.lst xs) → s7.get n = some (.lst xs) := fun e => f7.keep e (by
    simp only [List.mem_cons, List.not_mem_nil, or_false]
    exact neS h e)
  have nw := h.new (n := st.size) (Nat.le_refl _)
  have b1 := Sto.get_lt h.B
  have b2 := Sto.get_lt h.C
  obtain ⟨pa, pl, pm, px, pp1, _, _, _, pp2⟩ := h.P
  have b3 := Sto.get_lt pp2
  refine hG s7 st.size s1.size s4.size s2.size ⟨?_, h.P.fm f7 (by
      simp only [List.mem_cons, List.not_mem_nil, or_false]
      exact Ne.symm h.sp) (by
      simp only [List.mem_cons, List.not_mem_nil, or_false]
      exact neS h pp2), old h.B, ?_, ?_, ?_, old h.C, ?_, h.sp⟩ ?_ (Nat.le_refl _) (by omega) (by omega) (by omega) (by omega) (by omega) (by omega) f7
  · rw [← hs7]; exact Sto.get_set_same (Sto.get_lt S6)
  · show s7.get s1.size = some (.lst [])
    rw [g73 _ (by omega) (by omega)]; exact r3
  · show s7.get s4.size = some (.lst ((g.en ++ (irange g.nx (g.nx + ks.length)).zip ks).map pD))
    rw [hzp, g7 _ (by omega)]; exact e5
  · show s7.get s2.size = some (.lst (((irange g.nx (g.nx + ks.length)).zip ks).map pD))
    rw [hzp, g73 _ (by omega) (by omega)]; exact p3
  · obtain ⟨_, _, _, n4, n5, _, _, _, _, _, _, _, _, _, n15⟩ := h.ndS
    show [g.B, s1.size, s4.size, s2.size, c.C, c.Cl].Nodup
    simp only [List.nodup_cons, List.mem_cons, List.not_mem_nil, or_false, not_or, List.nodup_nil, and_true, not_false_eq_true]
    refine ⟨⟨?_, ?_, ?_, n4, n5⟩, ⟨?_, ?_, ?_, ?_⟩, ⟨?_, ?_, ?_⟩, ⟨?_, ?_⟩, n15⟩ <;> omega
  · rw [g73 _ (by omega) (by omega)]; exact q3
end
end Mw
/-! What holds of the blocks while they are made. -/
namespace Mw
open PySem PySem.Spec PyProof.Rows L2 Dn
def gvB (b : Blk) : List Int := b.pr.map (·.1) ++ b.rows.filterMap (·.x)
def gvO : Option Blk → List Int
  | none => []
  | some b => gvB b
def gvBl (bl : List (Option Blk)) : List Int := bl.flatMap gvO
def cur (g : Gs) : List Int := g.pr.map (·.1) ++ g.rs.filterMap (·.x)
theorem gv_set {b : Blk} : ∀ {bl : List (Option Blk)} {i : Nat}, bl[i]? = some none → (gvBl (bl.set i (some b))).Perm (gvBl bl ++ gvB b)
  | [], i, h => by simp at h
  | x :: bl, 0, h => by
    simp only [List.getElem?_cons_zero, Option.some.injEq] at h
    subst h
    show (gvB b ++ gvBl bl).Perm ([] ++ gvBl bl ++ gvB b)
    rw [List.nil_append]
    exact List.perm_append_comm
  | x :: bl, i + 1, h => by
    simp only [List.getElem?_cons_succ] at h
    show (gvO x ++ gvBl (bl.set i (some b))).Perm (gvO x ++ gvBl bl ++ gvB b)
    rw [List.append_assoc]
    exact (gv_set h).append_left _
theorem gv_app {bl : List (Option Blk)} : gvBl (bl ++ [none]) = gvBl bl := by
  unfold gvBl
  rw [List.flatMap_append]
  simp [gvO]
def inN (nx : Int) (x : Int) : Prop := 0 ≤ x ∧ x < nx
def EOk (nx : Int) (m : Int) : En → Prop
  | .jump g as => (0 ≤ g ∧ g < m) ∧ (∀ a ∈ as, inN nx a) ∧ as.length ≤ SZ
  | .branch x y n => inN nx x ∧ (0 ≤ y ∧ y < m) ∧ (0 ≤ n ∧ n < m)
  | .give x => inN nx x
  | .fail _ => True
def ROk (nx : Int) (r : Rw) : Prop := (∀ a ∈ r.args, inN nx a) ∧ r.args.length ≤ SZ
def BOk (nx m : Int) (b : Blk) : Prop := (∀ r ∈ b.rows, ROk nx r) ∧ EOk nx m b.en
theorem EOk.mono {nx nx' m m' : Int} {e : En} (h : EOk nx m e) (h1 : nx ≤ nx') (h2 : m ≤ m') : EOk nx' m' e := by
  cases e with
  | jump g as => exact ⟨⟨h.1.1, by have := h.1.2; omega⟩, fun a ha => ⟨(h.2.1 a ha).1, by have := (h.2.1 a ha).2; omega⟩, h.2.2⟩
  | branch x y n =>
    obtain ⟨⟨a1, a2⟩, ⟨b1, b2⟩, ⟨c1, c2⟩⟩ := h
    exact ⟨⟨a1, by omega⟩, ⟨b1, by omega⟩, ⟨c1, by omega⟩⟩
  | give x => exact ⟨h.1, by have := h.2; omega⟩
  | fail l => trivial
theorem BOk.mono {nx nx' m m' : Int} {b : Blk} (h : BOk nx m b) (h1 : nx ≤ nx') (h2 : m ≤ m') : BOk nx' m' b :=
  ⟨fun r hr => ⟨fun a ha => ⟨((h.1 r hr).1 a ha).1, by have := ((h.1 r hr).1 a ha).2; omega⟩, (h.1 r hr).2⟩, h.2.mono h1 h2⟩
/-- from the state g at st to g' at s; pd: the blocks that are not yet ended; cu: one of them is being filled -/
structure Go (c : Fx) (n m : Int) (pd : List Int) (cu : Bool) (g g' : Gs) (st s : Sto) : Prop where
  A : At c g' s
  ge : GE g'
  nm : (gvBl g'.bl ++ (if cu = true then cur g' else [])).Perm (irange 0 g'.nx)
  ra : cu = true → ∀ r ∈ g'.rs, ROk g'.nx r
  bo : ∀ b, some b ∈ g'.bl → BOk g'.nx g'.bl.length b
  pdo : ∀ p ∈ pd, 0 ≤ p ∧ g'.bl[p.toNat]? = some none ∧ (p = g.now ∨ g.bl.length ≤ p)
  pn : pd.Nodup
  cun : cu = true → g'.now ∈ pd
  fill : ∀ i : Nat, ((i : Int) = g.now ∨ g.bl.length ≤ i) → i < g'.bl.length → (i : Int) ∉ pd → ∃ b, g'.bl[i]? = some (some b)
  keep : ∀ i : Nat, i < g.bl.length → (i : Int) ≠ g.now → g'.bl[i]? = g.bl[i]?
  nx : g.nx ≤ g'.nx ∧ g'.nx ≤ g.nx + n
  ln : g.ln ≤ g'.ln ∧ g'.ln ≤ g.ln + n
  bl : g.bl.length ≤ g'.bl.length ∧ (g'.bl.length : Int) ≤ g.bl.length + m
  fm : Fm [c.S, c.P, g.B, g.R, g.E] st s
  R : g'.R = g.R ∨ st.size ≤ g'.R
  E : g'.E = g.E ∨ st.size ≤ g'.E
  B : g'.B = g.B
/-- a state in which a block is being filled -/
structure Bk (c : Fx) (g : Gs) : Prop where
  ge : GE g
  nm : (gvBl g.bl ++ cur g).Perm (irange 0 g.nx)
  ra : ∀ r ∈ g.rs, ROk g.nx r
  bo : ∀ b, some b ∈ g.bl → BOk g.nx g.bl.length b
  now : 0 ≤ g.now ∧ g.bl[g.now.toNat]? = some none
section
variable {c : Fx} {n m k : Int} {pd : List Int} {cu : Bool} {g g1 g2 : Gs} {st s1 s2 : Sto}
theorem Go.bk (h : Go c n m pd true g g1 st s1) : Bk c g1 := ⟨h.ge, by simpa using h.nm, h.ra rfl, h.bo, (h.pdo _ (h.cun rfl)).1, (h.pdo _ (h.cun rfl)).2.1⟩
theorem Go.start (hA : At c g st) (h : Bk c g) : Go c 0 0 [g.now] true g g st st := by
  refine ⟨hA, h.ge, by simpa using h.nm, fun _ => h.ra, h.bo, fun p hp => ?_, by simp, fun _ => by simp, fun i hi hl hp => ?_, fun _ _ _ => rfl, by omega, by omega, by omega, .refl, .inl rfl, .inl rfl, rfl⟩
  · simp only [List.mem_cons, List.not_mem_nil, or_false] at hp
    subst hp
    exact ⟨h.now.1, h.now.2, .inl rfl⟩
  · simp only [List.mem_cons, List.not_mem_nil, or_false] at hp
    rcases hi with q | q
    · exact absurd q hp
    · omega
theorem fmW {W V : List Nat} {s s1 s2 : Sto} (a : Fm W s s1) (b : Fm V s1 s2) (h : ∀ i ∈ V, i ∈ W ∨ s.size ≤ i) : Fm W s s2 := a.trans b h
theorem Go.inW (h : Go c n m pd cu g g1 st s1) : (∀ i ∈ [c.S, c.P, g1.B, g1.R, g1.E], i ∈ [c.S, c.P, g.B, g.R, g.E] ∨ st.size ≤ i) := by
  intro i hi
  simp only [List.mem_cons, List.not_mem_nil, or_false] at hi ⊢
  rcases hi with q | q | q | q | q
  · exact .inl (.inl q)
  · exact .inl (.inr (.inl q))
  · exact .inl (.inr (.inr (.inl (q.trans h.B))))
  · rcases h.R with r | r
    · exact .inl (.inr (.inr (.inr (.inl (q.trans r)))))
    · exact .inr (by rw [q]; exact r)
  · rcases h.E with r | r
    · exact .inl (.inr (.inr (.inr (.inr (q.trans r)))))
    · exact .inr (by rw [q]; exact r)
theorem Go.mono {n' m' : Int} (h : Go c n m pd cu g g1 st s1) (h1 : n ≤ n') (h2 : m ≤ m') : Go c n' m' pd cu g g1 st s1 :=
  ⟨h.A, h.ge, h.nm, h.ra, h.bo, h.pdo, h.pn, h.cun, h.fill, h.keep, ⟨h.nx.1, by have := h.nx.2; omega⟩, ⟨h.ln.1, by have := h.ln.2; omega⟩, ⟨h.bl.1, by have := h.bl.2; omega⟩, h.fm, h.R, h.E, h.B⟩
/-- rows put -/
theorem Go.gr (h : Go c n m pd true g g1 st s1) (r : Gr k g1 g2) (hA : At c g2 s2) (f : Fm [c.S, c.P, g1.R, g1.E] s1 s2) : Go c (n + k) m pd true g g2 st s2 := by
  obtain ⟨more, r1, r2, r3, r4⟩ := r.rows
  have hn := r.nx
  have hl := r.ln
  have hg := h.ge.nx
  refine ⟨hA, h.ge.gr r, ?_, fun _ q hq => ?_, fun b hb => ?_, fun p hp => ?_, h.pn, fun _ => by rw [r.now]; exact h.cun rfl, fun i hi hlt hp => ?_, fun i hi hne => ?_, ?_, ?_, ?_, ?_, ?_, ?_, ?_⟩
  · have e := h.nm
    simp only [if_true] at e ⊢
    have e2 : cur g2 = cur g1 ++ irange g1.nx g2.nx := by
      unfold cur
      rw [r.pr, r1, List.filterMap_append, r2, List.append_assoc]
    rw [r.bl, e2, ← List.append_assoc, ← irange_app hg hn.1]
    exact e.append_right _
  · rw [r1] at hq
    rcases List.mem_append.mp hq with hq | hq
    · refine ⟨fun a ha => ?_, (h.ra rfl q hq).2⟩
      have := (h.ra rfl q hq).1 a ha
      exact ⟨this.1, by have := this.2; omega⟩
    · exact r3 q hq
  · rw [r.bl] at hb ⊢
    exact (h.bo b hb).mono hn.1 (Int.le_refl _)
  · rw [r.bl]; exact h.pdo p hp
  · rw [r.bl] at hlt ⊢; exact h.fill i hi hlt hp
  · rw [r.bl]; exact h.keep i hi hne
  · have := h.nx; omega
  · have := h.ln; omega
  · rw [r.bl]; exact h.bl
  · refine h.fm.trans f fun i q => h.inW i ?_
    simp only [List.mem_cons, List.not_mem_nil, or_false] at q ⊢
    rcases q with q | q | q | q <;> simp [q]
  · rw [r.R]; exact h.R
  · rw [r.E]; exact h.E
  · rw [r.B]; exact h.B
/-- the pot turned -/
theorem Go.pot (h : Go c n m pd cu g g1 st s1) (hA : At c g1 s2) (f : Fm [c.P] s1 s2) : Go c n m pd cu g g1 st s2 :=
  ⟨hA, h.ge, h.nm, h.ra, h.bo, h.pdo, h.pn, h.cun, h.fill, h.keep, h.nx, h.ln, h.bl, h.fm.trans f fun i q => h.inW i (by
    simp only [List.mem_cons, List.not_mem_nil, or_false] at q ⊢
    simp [q]), h.R, h.E, h.B⟩
/-- something new laid -/
theorem Go.new (h : Go c n m pd cu g g1 st s1) (hA : At c g1 s2) (f : Fm [] s1 s2) : Go c n m pd cu g g1 st s2 :=
  ⟨hA, h.ge, h.nm, h.ra, h.bo, h.pdo, h.pn, h.cun, h.fill, h.keep, h.nx, h.ln, h.bl, h.fm.trans f (fun i q => (by cases q)), h.R, h.E, h.B⟩
/-- a block opened -/
theorem Go.open' (h : Go c n m pd cu g g1 st s1) (hA : At c { g1 with bl := g1.bl ++ [none] } s2) (f : Fm [g1.B] s1 s2) : Go c n (m + 1) ((g1.bl.length : Int) :: pd) cu g { g1 with bl := g1.bl ++ [none] } st s2 := by
  have hb := h.bl
  have e : (g1.bl ++ [(none : Option Blk)]).length = g1.bl.length + 1 := by simp
  refine ⟨hA, ⟨h.ge.en, h.ge.nx, h.ge.ln, h.ge.rl, h.ge.el, fun b hb => by
    have hb : some b ∈ g1.bl ++ [none] := hb
    rcases List.mem_append.mp hb with hb | hb
    · exact h.ge.bw b hb
    · simp at hb⟩, ?_, h.ra, fun b hb => ?_, fun p hp => ?_, ?_, fun q => List.mem_cons_of_mem _ (h.cun q), fun i hi hlt hp => ?_, fun i hi hne => ?_, h.nx, h.ln, ?_, ?_, h.R, h.E, h.B⟩
  · show (gvBl (g1.bl ++ [none]) ++ _).Perm _
    rw [gv_app]
    exact h.nm
  · have hb : some b ∈ g1.bl ++ [none] := hb
    rcases List.mem_append.mp hb with hb | hb
    · exact (h.bo b hb).mono (Int.le_refl _) (by show (g1.bl.length : Int) ≤ ((g1.bl ++ [none]).length : Nat); omega)
    · simp at hb
  · show 0 ≤ p ∧ (g1.bl ++ [none])[p.toNat]? = _ ∧ _
    rcases List.mem_cons.mp hp with rfl | hp
    · refine ⟨by omega, ?_, .inr (by omega)⟩
      rw [Int.toNat_natCast, List.getElem?_append_right (Nat.le_refl _)]
      simp
    · obtain ⟨a, b, d⟩ := h.pdo p hp
      refine ⟨a, ?_, d⟩
      rw [List.getElem?_append_left (List.getElem?_eq_some_iff.mp b).1]
      exact b
  · refine List.nodup_cons.mpr ⟨fun q => ?_, h.pn⟩
    have := (List.getElem?_eq_some_iff.mp (h.pdo _ q).2.1).1
    omega
  · show ∃ b, (g1.bl ++ [none])[i]? = _
    have hlt : i < (g1.bl ++ [(none : Option Blk)]).length := hlt
    have hne : i ≠ g1.bl.length := fun q => hp (by rw [q]; simp)
    have hl : i < g1.bl.length := by omega
    rw [List.getElem?_append_left hl]
    exact h.fill i hi hl fun q => hp (List.mem_cons_of_mem _ q)
  · show (g1.bl ++ [none])[i]? = _
    rw [List.getElem?_append_left (by omega)]
    exact h.keep i hi hne
  · show g.bl.length ≤ (g1.bl ++ [none]).length ∧ ((g1.bl ++ [(none : Option Blk)]).length : Int) ≤ _
    omega
  · refine h.fm.trans f fun i q => h.inW i ?_
    simp only [List.mem_cons, List.not_mem_nil, or_false] at q ⊢
    simp [q]
/-- a block ended -/
theorem Go.end' {en : En} (h : Go c n m pd true g g1 st s1) (he : EOk g1.nx g1.bl.length en) (hA : At c { g1 with bl := g1.bl.set g1.now.toNat (some ⟨g1.pr, g1.rs, en⟩) } s2) (f : Fm [g1.B] s1 s2) :
    Go c n m (pd.erase g1.now) false g { g1 with bl := g1.bl.set g1.now.toNat (some ⟨g1.pr, g1.rs, en⟩) } st s2 := by
  have hc := h.cun rfl
  obtain ⟨n0, nn, nd⟩ := h.pdo _ hc
  have e : (g1.bl.set g1.now.toNat (some ⟨g1.pr, g1.rs, en⟩)).length = g1.bl.length := by simp
  have hnl := (List.getElem?_eq_some_iff.mp nn).1
  have ne : ∀ p ∈ pd.erase g1.now, p ∈ pd ∧ p ≠ g1.now := fun p hp => ⟨List.mem_of_mem_erase hp, fun q => by rw [q] at hp; exact absurd hp (List.Nodup.not_mem_erase h.pn)⟩
  refine ⟨hA, ⟨h.ge.en, h.ge.nx, h.ge.ln, h.ge.rl, h.ge.el, fun b hb => by
    have hb : some b ∈ g1.bl.set g1.now.toNat (some ⟨g1.pr, g1.rs, en⟩) := hb
    rcases List.mem_or_eq_of_mem_set hb with hb | hb
    · exact h.ge.bw b hb
    · cases hb
      exact h.ge.rl⟩, ?_, fun q => (by cases q), fun b hb => ?_, fun p hp => ?_, h.pn.erase _, fun q => (by cases q), fun i hi hlt hp => ?_, fun i hi hne => ?_, h.nx, h.ln, ?_, ?_, h.R, h.E, h.B⟩
  · have e2 := h.nm
    simp only [if_true] at e2
    simp only [Bool.false_eq_true, if_false, List.append_nil]
    exact (gv_set nn).trans e2
  · show BOk g1.nx ((g1.bl.set g1.now.toNat (some ⟨g1.pr, g1.rs, en⟩)).length : Nat) b
    rw [e]
    have hb : some b ∈ g1.bl.set g1.now.toNat (some ⟨g1.pr, g1.rs, en⟩) := hb
    rcases List.mem_or_eq_of_mem_set hb with hb | hb
    · exact h.bo b hb
    · cases hb
      exact ⟨h.ra rfl, he⟩
  · obtain ⟨hp, hne⟩ := ne p hp
    obtain ⟨a, b, d⟩ := h.pdo p hp
    refine ⟨a, ?_, d⟩
    show (g1.bl.set g1.now.toNat _)[p.toNat]? = _
    rw [List.getElem?_set_ne (by omega)]
    exact b
  · show ∃ b, (g1.bl.set g1.now.toNat _)[i]? = _
    have hlt : i < (g1.bl.set g1.now.toNat (some ⟨g1.pr, g1.rs, en⟩)).length := hlt
    rw [e] at hlt
    by_cases hin : i = g1.now.toNat
    · subst hin
      rw [List.getElem?_set_self hlt]
      exact ⟨_, rfl⟩
    · rw [List.getElem?_set_ne (Ne.symm hin)]
      refine h.fill i hi hlt fun q => hp ?_
      exact (List.mem_erase_of_ne (by omega)).mpr q
  · show (g1.bl.set g1.now.toNat _)[i]? = _
    have : i ≠ g1.now.toNat := by
      rintro rfl
      rcases nd with q | q
      · rw [q] at hne; exact hne (by omega)
      · omega
    rw [List.getElem?_set_ne (Ne.symm this)]
    exact h.keep i hi hne
  · show g.bl.length ≤ (g1.bl.set g1.now.toNat _).length ∧ _
    have := h.bl
    rw [e]
    exact this
  · refine h.fm.trans f fun i q => h.inW i ?_
    simp only [List.mem_cons, List.not_mem_nil, or_false] at q ⊢
    simp [q]
/-- a block begun -/
theorem Go.begin' {p : Int} {ks : List Kd} {R E Pa : Nat} (h : Go c n m pd false g g1 st s1) (hp : p ∈ pd) (hA : At c (g1.begin p ks R E Pa) s2) (f : Fm [c.S] s1 s2) (hR : s1.size ≤ R) (hE : s1.size ≤ E) : Go c (n + ks.length) m pd true g (g1.begin p ks R E Pa) st s2 := by
  have hx := h.ge.nx
  have hel := h.ge.el
  have hln := h.ge.ln
  have hrl := h.ge.rl
  have hle := h.fm.le
  have il : (irange g1.nx (g1.nx + ks.length)).length = ks.length := by rw [irange_len]; omega
  have zf : ((irange g1.nx (g1.nx + ks.length)).zip ks).map (·.1) = irange g1.nx (g1.nx + ks.length) := List.map_fst_zip (by rw [il]; exact Nat.le_refl _)
  have zl : ((irange g1.nx (g1.nx + ks.length)).zip ks).length = ks.length := by rw [List.length_zip, il]; omega
  refine ⟨hA, ⟨?_, ?_, hln, ?_, ?_, h.ge.bw⟩, ?_, fun _ q hq => (by cases hq), fun b hb => ?_, h.pdo, h.pn, fun _ => hp, h.fill, h.keep, ?_, ?_, h.bl, ?_, .inr (by show st.size ≤ R; omega), .inr (by show st.size ≤ E; omega), h.B⟩
  · intro e he
    show 0 ≤ e.1 ∧ e.1 < g1.nx + ks.length
    have he : e ∈ g1.en ++ (irange g1.nx (g1.nx + ks.length)).zip ks := he
    rcases List.mem_append.mp he with he | he
    · have := h.ge.en e he; omega
    · have : e.1 ∈ irange g1.nx (g1.nx + ks.length) := by rw [← zf]; exact List.mem_map_of_mem he
      have := irange_mem.mp this
      omega
  · show 0 ≤ g1.nx + (ks.length : Int); omega
  · show ((0 : Nat) : Int) ≤ g1.ln; omega
  · show ((g1.en ++ (irange g1.nx (g1.nx + ks.length)).zip ks).length : Int) ≤ g1.nx + ks.length
    rw [List.length_append, zl]; omega
  · simp only [if_true]
    have e := h.nm
    simp only [Bool.false_eq_true, if_false, List.append_nil] at e
    show (gvBl g1.bl ++ (List.map (fun p : Int × Kd => p.1) ((irange g1.nx (g1.nx + ks.length)).zip ks) ++ [])).Perm (irange 0 (g1.nx + ks.length))
    rw [zf, List.append_nil, ← irange_app hx (show g1.nx ≤ g1.nx + ks.length by omega)]
    exact e.append_right _
  · exact (h.bo b hb).mono (by show g1.nx ≤ g1.nx + ks.length; omega) (Int.le_refl _)
  · have := h.nx
    show g.nx ≤ g1.nx + ks.length ∧ g1.nx + ks.length ≤ g.nx + (n + ks.length)
    omega
  · have := h.ln
    show g.ln ≤ g1.ln ∧ g1.ln ≤ g.ln + (n + ks.length)
    omega
  · refine h.fm.trans f fun i q => h.inW i ?_
    simp only [List.mem_cons, List.not_mem_nil, or_false] at q ⊢
    simp [q]
/-- the names that may be used set anew -/
theorem Go.env {E : Nat} {en : List (Int × Kd)} (h : Go c n m pd cu g g1 st s1) (hA : At c { g1 with E := E, en := en } s2) (f : Fm [c.S] s1 s2) (hE : s1.size ≤ E) (he : ∀ e ∈ en, 0 ≤ e.1 ∧ e.1 < g1.nx) (hl : (en.length : Int) ≤ g1.nx) : Go c n m pd cu g { g1 with E := E, en := en } st s2 := by
  have hle := h.fm.le
  refine ⟨hA, ⟨he, h.ge.nx, h.ge.ln, h.ge.rl, hl, h.ge.bw⟩, h.nm, h.ra, h.bo, h.pdo, h.pn, h.cun, h.fill, h.keep, h.nx, h.ln, h.bl, ?_, h.R, .inr (by show st.size ≤ E; omega), h.B⟩
  refine h.fm.trans f fun i q => h.inW i ?_
  simp only [List.mem_cons, List.not_mem_nil, or_false] at q ⊢
  simp [q]
/-- what a body has done -/
theorem Go.sub {n2 m2 : Int} (h : Go c n m pd true g g1 st s1) (h2 : Go c n2 m2 [g2.now] true g1 g2 s1 s2) : Go c (n + n2) (m + m2) (g2.now :: pd.erase g1.now) true g g2 st s2 := by
  have hb := h.bl
  have hb2 := h2.bl
  obtain ⟨n0, nn, nd⟩ := h.pdo _ (h.cun rfl)
  obtain ⟨q0, qn, qd⟩ := h2.pdo _ (h2.cun rfl)
  have hnl := (List.getElem?_eq_some_iff.mp nn).1
  have ne : ∀ p ∈ pd.erase g1.now, p ∈ pd ∧ p ≠ g1.now := fun p hp => ⟨List.mem_of_mem_erase hp, fun q => by rw [q] at hp; exact absurd hp (List.Nodup.not_mem_erase h.pn)⟩
  have kp : ∀ p ∈ pd.erase g1.now, g2.bl[p.toNat]? = some none ∧ p ≠ g2.now := fun p hp => by
    obtain ⟨hp, hne⟩ := ne p hp
    obtain ⟨a, b, d⟩ := h.pdo p hp
    have hl := (List.getElem?_eq_some_iff.mp b).1
    refine ⟨by rw [h2.keep _ hl (by omega)]; exact b, ?_⟩
    rcases qd with r | r
    · rw [r]; exact hne
    · omega
  refine ⟨h2.A, h2.ge, h2.nm, h2.ra, h2.bo, fun p hp => ?_, ?_, fun _ => by simp, fun i hi hlt hp => ?_, fun i hi hne => ?_, ?_, ?_, ?_, ?_, ?_, ?_, h2.B.trans h.B⟩
  · rcases List.mem_cons.mp hp with rfl | hp
    · refine ⟨q0, qn, ?_⟩
      rcases qd with r | r
      · rw [r]; exact nd
      · exact .inr (by omega)
    · obtain ⟨a, b, d⟩ := h.pdo p (ne p hp).1
      exact ⟨a, (kp p hp).1, d⟩
  · exact List.nodup_cons.mpr ⟨fun q => (kp _ q).2 rfl, h.pn.erase _⟩
  · by_cases hs : (i : Int) = g1.now ∨ g1.bl.length ≤ i
    · refine h2.fill i hs hlt fun q => hp ?_
      simp only [List.mem_cons, List.not_mem_nil, or_false] at q
      rw [q]; simp
    · have h1 : (i : Int) ≠ g1.now := fun q => hs (.inl q)
      have h3 : i < g1.bl.length := Nat.lt_of_not_le fun q => hs (.inr q)
      rw [h2.keep i h3 h1]
      exact h.fill i hi h3 fun q => hp (List.mem_cons_of_mem _ ((List.mem_erase_of_ne h1).mpr q))
  · have hne2 : (i : Int) ≠ g1.now := by
      intro q
      rcases nd with r | r
      · rw [r] at q; exact hne q
      · omega
    rw [h2.keep i (by omega) hne2, h.keep i hi hne]
  · have := h.nx; have := h2.nx; omega
  · have := h.ln; have := h2.ln; omega
  · omega
  · exact h.fm.trans h2.fm h.inW
  · rcases h2.R with r | r
    · rw [r]; exact h.R
    · exact .inr (Nat.le_trans h.fm.le r)
  · rcases h2.E with r | r
    · rw [r]; exact h.E
    · exact .inr (Nat.le_trans h.fm.le r)
end
end Mw
/-! A choice of two ways. -/
namespace Mw
open PySem PySem.Spec PyProof.Rows L2 Dn
def cbN : Nat → Int
  | 0 => 1500
  | r + 1 => 3 * (2 * cbN r + 1000)
def bbN : Nat → Int
  | 0 => 0
  | r + 1 => 3 * (3 + 2 * bbN r)
theorem cbN_pos : ∀ r, 1500 ≤ cbN r
  | 0 => by show (1500 : Int) ≤ 1500; omega
  | r + 1 => by
    have := cbN_pos r
    show 1500 ≤ 3 * (2 * cbN r + 1000)
    omega
theorem bbN_pos : ∀ r, 0 ≤ bbN r
  | 0 => by show (0 : Int) ≤ 0; omega
  | r + 1 => by
    have := bbN_pos r
    show 0 ≤ 3 * (3 + 2 * bbN r)
    omega
/-- the promise of body -/
def BodyOk (k r : Nat) : Prop := ∀ {c : Fx} {g : Gs} {st : Sto} {G : D → Sto → Prop}, FxOk c → At c g st → Bk c g → Lim (cbN r) g → (g.bl.length : Int) + bbN r ≤ 8000000 →
  (∀ s g', Go c (cbN r) (bbN r) [g'.now] true g g' st s → G .non s) → Ok (Hd.runs k 21 [.ref c.S, .ref c.P, .int (3 - r)] st) G
theorem seq_par3 {i j l : Nat} {fs : M (List D)} {b : SM} {env : Dn.Env} {st : Sto} {R : Res → Prop} (h : Ok (fs env st) fun ds s => ∃ x y z, ds = [x, y, z] ∧ OkS (b (((env.set i (some x)).set j (some y)).set l (some z)) s) R) : OkS (seqS (parS [i, j, l] fs) b env st) R := by
  obtain ⟨ds, s, e, x, y, z, rfl, h⟩ := h
  refine oks_seq.mpr ⟨.nx (((env.set i (some x)).set j (some y)).set l (some z)) s, ?_, h⟩
  unfold parS
  rw [e, Option.bind_some]
  rfl
section
variable {c : Fx} {n m : Int} {pd : List Int} {cu : Bool} {g g1 g2 : Gs} {st s1 s2 : Sto} {k : Nat}
theorem Lim.go {n m : Int} {j : Int} (h : Lim (n + j) g) (r : Go c n m pd cu g g1 st s1) : Lim j g1 := by
  have h1 := r.nx
  have h2 := r.ln
  unfold Lim at *
  omega
/-- the list of names that may be used, copied -/
theorem copy_env {env : Dn.Env} {Q : D → Sto → Prop} (h : At c g1 s1) (hq : Q (.ref s1.size) (s1.push (.lst (g1.en.map pD)))) : Ok (unF listD (opF getD (varF 0) (cF (.str "env"))) (some (.ref c.S) :: env) s1) Q := by
  refine ok_un.mpr ⟨_, _, getS_eq h.S st_env, ?_⟩
  show Ok (listD (.ref g1.E) s1) _
  rw [list_r, h.E]
  exact ok_some.mpr hq
/-- state['env'] = list(kept), kept in the slot i -/
theorem set_env {i L : Nat} {env : Dn.Env} {en : List (Int × Kd)} {R : Res → Prop} {b : SM} (h : Go c n m pd cu g g1 st s1) (hi : (some (.ref c.S) :: env)[i]? = some (some (.ref L))) (hL : s1.get L = some (.lst (en.map pD))) (he : ∀ e ∈ en, 0 ≤ e.1 ∧ e.1 < g1.nx) (hl : (en.length : Int) ≤ g1.nx)
    (hk : ∀ s2, Go c n m pd cu g { g1 with E := s1.size, en := en } st s2 → Fm [c.S] s1 s2 → s1.size < s2.size → OkS (b (some (.ref c.S) :: env) s2) R) : OkS (seqS (asgS (unF listD (varF i)) (subG (varF 0) (cF (.str "env")))) b (some (.ref c.S) :: env) s1) R := by
  have hv : varF i (some (.ref c.S) :: env) s1 = some (.ref L, s1) := by
    unfold varF
    rw [hi]
  have hA := h.A
  refine seq_asg.mpr (ok_un.mpr ⟨_, _, hv, ?_⟩)
  show Ok (listD (.ref L) s1) _
  rw [list_r, hL]
  refine ok_some.mpr ?_
  have hS2 : (s1.push (.lst (en.map pD))).get c.S = some (.dic (gD c g1)) := by rw [Sto.get_push_lt (Sto.get_lt hA.S)]; exact hA.S
  refine sub0 hS2 st_len ?_
  rw [st_senv]
  have f : Fm [c.S] s1 ((s1.push (.lst (en.map pD))).set c.S (.dic (stD g1.B g1.now g1.R g1.Pa s1.size g1.nx g1.ln c.C g1.bu c.fi c.mo))) := (Fm.push (W := [c.S])).trans (Fm.set (W := [c.S]) (.inl (by simp))) fun i q => .inl q
  have nw := hA.new (n := s1.size) (Nat.le_refl _)
  have hP : PotAt c.P c.Cl c.cells ((s1.push (.lst (en.map pD))).set c.S (.dic (stD g1.B g1.now g1.R g1.Pa s1.size g1.nx g1.ln c.C g1.bu c.fi c.mo))) := hA.P.fm f (by
      simp only [List.mem_cons, List.not_mem_nil, or_false]
      exact Ne.symm hA.sp) (by
      obtain ⟨a, l, m, mx, _, _, _, _, q⟩ := hA.P
      simp only [List.mem_cons, List.not_mem_nil, or_false]
      exact neS hA q)
  have old : ∀ {n : Nat} {xs : List D}, s1.get n = some (.lst xs) → ((s1.push (.lst (en.map pD))).set c.S (.dic (stD g1.B g1.now g1.R g1.Pa s1.size g1.nx g1.ln c.C g1.bu c.fi c.mo))).get n = some (.lst xs) := fun e => f.keep e (by
    simp only [List.mem_cons, List.not_mem_nil, or_false]
    exact neS hA e)
  have hA2 : At c { g1 with E := s1.size, en := en } ((s1.push (.lst (en.map pD))).set c.S (.dic (stD g1.B g1.now g1.R g1.Pa s1.size g1.nx g1.ln c.C g1.bu c.fi c.mo))) := by
    refine ⟨Sto.get_set_same (Sto.get_lt hS2), hP, old hA.B, old hA.R, ?_, old hA.Pa, old hA.C, ?_, hA.sp⟩
    · show Sto.get _ s1.size = _
      rw [Sto.get_set_ne nw.1, Sto.get_push_new]
    · obtain ⟨n1, _, n3, n4, n5, _, n7, n8, n9, _, _, _, n13, n14, n15⟩ := hA.ndS
      obtain ⟨w1, w2, w3, w4, w5, w6, w7, w8⟩ := nw
      show [g1.B, g1.R, s1.size, g1.Pa, c.C, c.Cl].Nodup
      simp only [List.nodup_cons, List.mem_cons, List.not_mem_nil, or_false, not_or, List.nodup_nil, and_true, not_false_eq_true]
      exact ⟨⟨n1, Ne.symm w2, n3, n4, n5⟩, ⟨Ne.symm w3, n7, n8, n9⟩, ⟨w5, w6, w8⟩, ⟨n13, n14⟩, n15⟩
  exact hk _ (h.env hA2 f (Nat.le_refl _) he hl) f (by rw [Sto.size_set, Sto.size_push]; omega)
def armS (f : Nat → FnD) : SM := (seqS (asgS (unF listD (varF 7)) (subG (varF 0) (cF (.str "env"))))
  (seqS (exprS (callF 3 (f 17) (consF (varF 0) (consF (varF 8) (consF (tupF (nilF)) nilF)))))
  (seqS (exprS (callF 3 (f 21) (consF (varF 0) (consF (varF 1) (consF (opF addD (varF 2) (cF (.int 1))) nilF)))))
  (ifS (andF (tstF (opF (eqD false) (varF 8) (varF 4))) (tstF (opF (eqD false) (callF 2 (f 11) (consF (varF 1) (consF (cF (.int 9)) nilF))) (cF (.int 8))))) (exprS (callF 2 (f 18) (consF (varF 0) (consF (tupF (consF (cF (.str "fail")) (consF (cF (.str "fail")) (consF (opF getD (varF 0) (cF (.str "line"))) nilF)))) nilF)))) (exprS (callF 2 (f 18) (consF (varF 0) (consF (tupF (consF (cF (.str "jump")) (consF (varF 6) (consF (tupF (consF (callF 3 (f 14) (consF (varF 0) (consF (varF 1) (consF (tupF (consF (cF (.str "number")) nilF)) nilF)))) nilF)) nilF)))) nilF))))))))
/-- one of the two ways -/
theorem arm_ok {r : Nat} {L : Nat} {x y no j arm : Int} {en : List (Int × Kd)} (hB : BodyOk (k + 6) r) (hF : FxOk c) (h : Go c n m pd false g g1 st s1) (hlim : Lim (n + cbN r + 20) g) (hbl : (g.bl.length : Int) + m + bbN r ≤ 8000000) (hp : arm ∈ pd) (hL : s1.get L = some (.lst (en.map pD))) (hLB : L ≠ g1.B) (he : ∀ e ∈ en, 0 ≤ e.1 ∧ e.1 < g1.nx) (hl : (en.length : Int) ≤ g1.nx) (hj : 0 ≤ j ∧ j < g1.bl.length) :
    OkS (armS (Hd.runs (k + 6)) [some (.ref c.S), some (.ref c.P), some (.int (2 - r)), some (.int x), some (.int y), some (.int no), some (.int j), some (.ref L), some (.int arm)] s1) fun q => match q with
      | .nx e s => e = [some (.ref c.S), some (.ref c.P), some (.int (2 - r)), some (.int x), some (.int y), some (.int no), some (.int j), some (.ref L), some (.int arm)] ∧ ∃ g2, Go c (n + cbN r + 20) (m + bbN r) (pd.erase arm) false g g2 st s ∧ s.get L = some (.lst (en.map pD)) ∧ g2.B = g1.B ∧ g1.nx ≤ g2.nx ∧ g1.bl.length ≤ g2.bl.length
      | _ => False := by
  have hc0 := cbN_pos r
  have hb0 := bbN_pos r
  have hLS := neS h.A hL
  have hLP := h.A.P.ne hL
  have hLl := Sto.get_lt hL
  unfold armS
  refine set_env h rfl hL he hl fun s2 h2 f2 z2 => ?_
  have L2 := f2.keep hL (by simpa using hLS)
  -- begun
  refine seq_expr.mpr (ok_call.mpr ⟨[.ref c.S, .int arm, .tup []], s2, rfl, rfl, begin_ok (k := k + 5) (ks := []) h2.A h2.ge (Lim.go (hlim.mono (by show n + 0 ≤ _; omega)) h2) (.inl rfl) fun s3 nm R E Pa A3 q3 r0 r1 r2 r3 r4 r5 r6 f3 => ?_⟩)
  have h3 := (h2.begin' hp A3 f3 r1 r2).mono (n' := n) (by show n + ((0 : Nat) : Int) ≤ n; omega) (Int.le_refl _)
  have L3 := f3.keep L2 (by simpa using hLS)
  generalize hg3 : ({ g1 with E := s1.size, en := en } : Gs).begin arm [] R E Pa = g3 at A3 h3
  have e3 : g3.now = arm ∧ g3.B = g1.B ∧ g3.R = R ∧ g3.E = E ∧ g3.nx = g1.nx ∧ g3.bl = g1.bl := by
    subst hg3
    refine ⟨rfl, rfl, rfl, rfl, ?_, rfl⟩
    show g1.nx + ((0 : Nat) : Int) = g1.nx
    omega
  -- filled
  refine seq_expr.mpr (ok_call.mpr ⟨[.ref c.S, .ref c.P, .int (3 - r)], s3, ?_, rfl, hB hF A3 h3.bk (Lim.go (hlim.mono (by omega)) h3) ?_ fun s4 g4 h4 => ?_⟩)
  · have : (2 - (r : Int) + 1) = 3 - r := by omega
    show some ([D.ref c.S, .ref c.P, .int (2 - (r : Int) + 1)], s3) = _
    rw [this]
  · have := h3.bl
    omega
  have h5 := h3.sub h4
  have L4 : s4.get L = some (.lst (en.map pD)) := h4.fm.keep L3 (by
    simp only [List.mem_cons, List.not_mem_nil, or_false, not_or]
    rw [e3.2.1, e3.2.2.1, e3.2.2.2.1]
    exact ⟨hLS, hLP, hLB, by omega, by omega⟩)
  have hRE : L ≠ g4.R ∧ L ≠ g4.E ∧ L ≠ g4.B := by
    refine ⟨?_, ?_, by rw [h4.B, e3.2.1]; exact hLB⟩
    · rcases h4.R with q | q
      · rw [q, e3.2.2.1]; omega
      · have := h3.fm.le; have := Sto.get_lt L3; omega
    · rcases h4.E with q | q
      · rw [q, e3.2.2.2.1]; omega
      · have := Sto.get_lt L3; omega
  rw [e3.1] at h5
  have hbl4 : g1.bl.length ≤ g4.bl.length := by have := h4.bl.1; rw [e3.2.2.2.2.2] at this; exact this
  have hnx4 : g1.nx ≤ g4.nx := by have := h4.nx.1; rw [e3.2.2.2.2.1] at this; exact this
  -- how it ends
  have fin : ∀ (s5 : Sto) (g5 : Gs), Go c (n + cbN r + 20) (m + bbN r) (pd.erase arm) false g g5 st s5 → s5.get L = some (.lst (en.map pD)) → g5.B = g1.B → g1.nx ≤ g5.nx → g1.bl.length ≤ g5.bl.length →
      (match Res.nx [some (.ref c.S), some (.ref c.P), some (.int (2 - r)), some (.int x), some (.int y), some (.int no), some (.int j), some (.ref L), some (.int arm)] s5 with
      | .nx e s => e = [some (.ref c.S), some (.ref c.P), some (.int (2 - r)), some (.int x), some (.int y), some (.int no), some (.int j), some (.ref L), some (.int arm)] ∧ ∃ g2, Go c (n + cbN r + 20) (m + bbN r) (pd.erase arm) false g g2 st s ∧ s.get L = some (.lst (en.map pD)) ∧ g2.B = g1.B ∧ g1.nx ≤ g2.nx ∧ g1.bl.length ≤ g2.bl.length
      | _ => False) := fun s5 g5 a b d e f => ⟨rfl, g5, a, b, d, e, f⟩
  have hL4 : Lim 20 g4 := Lim.go (hlim.mono (by omega)) h5
  have hend : ∀ (sE : Sto) (gE : Gs) (en' : En), Go c (n + cbN r + 20) (m + bbN r) (g4.now :: pd.erase arm) true g gE st sE → gE.now = g4.now → gE.B = g1.B → g1.nx ≤ gE.nx → g1.bl.length ≤ gE.bl.length → EOk gE.nx gE.bl.length en' → sE.get L = some (.lst (en.map pD)) →
      Ok (Hd.runs (k + 6) 18 [.ref c.S, en'.d] sE) fun d s => ∃ g2, Go c (n + cbN r + 20) (m + bbN r) (pd.erase arm) false g g2 st s ∧ s.get L = some (.lst (en.map pD)) ∧ g2.B = g1.B ∧ g1.nx ≤ g2.nx ∧ g1.bl.length ≤ g2.bl.length := fun sE gE en' hG e1 e2 e3 e4 e5 e6 => by
    obtain ⟨p0, p1, _⟩ := hG.pdo _ (hG.cun rfl)
    have pl := (List.getElem?_eq_some_iff.mp p1).1
    refine end_ok (k := k + 5) hG.A en' p0 (by omega) fun s5 A5 f5 z5 => ?_
    have h6 := hG.end' e5 A5 f5
    rw [e1, List.erase_cons_head] at h6
    refine ⟨_, h6, f5.keep e6 ?_, e2, e3, ?_⟩
    · simp only [List.mem_cons, List.not_mem_nil, or_false]
      rw [e2]; exact hLB
    · show g1.bl.length ≤ (gE.bl.set _ _).length
      rw [List.length_set]; exact e4
  have hBe : g4.B = g1.B := h4.B.trans e3.2.1
  have z1 : 0 + 1 ≤ SZ := by decide
  have z3 : 0 + 1 + 1 + 1 ≤ SZ := by decide
  have hjmp : ∀ sE, At c g4 sE → Go c (n + cbN r) (m + bbN r) (g4.now :: pd.erase arm) true g g4 st sE → sE.get L = some (.lst (en.map pD)) →
      Ok (Hd.runs (k + 6) 14 [.ref c.S, .ref c.P, .tup [.str "number"]] sE) fun a s => Ok (Hd.runs (k + 6) 18 [.ref c.S, .tup [.str "jump", .int j, .tup [a]]] s) fun d s =>
        ∃ g2, Go c (n + cbN r + 20) (m + bbN r) (pd.erase arm) false g g2 st s ∧ s.get L = some (.lst (en.map pD)) ∧ g2.B = g1.B ∧ g1.nx ≤ g2.nx ∧ g1.bl.length ≤ g2.bl.length := fun sE hA hG e => by
    refine name_ok (k := k + 2) (a := .k .num) hF trivial hA hG.ge (hL4.mono (by omega)) fun s6 g6 v A6 gr6 v0 v1 f6 => ?_
    have h6 := (hG.gr gr6 A6 f6).mono (n' := n + cbN r + 20) (by omega) (Int.le_refl _)
    refine hend s6 g6 (.jump j [v]) h6 gr6.now (gr6.B.trans hBe) (Int.le_trans hnx4 gr6.nx.1) (by rw [gr6.bl]; exact hbl4) ⟨⟨hj.1, by rw [gr6.bl]; omega⟩, fun a ha => ?_, by show 1 ≤ SZ; decide⟩ (f6.keep e ?_)
    · simp only [List.mem_cons, List.not_mem_nil, or_false] at ha
      subst ha
      exact ⟨v0, v1⟩
    · simp only [List.mem_cons, List.not_mem_nil, or_false, not_or]
      exact ⟨hLS, hLP, hRE.1, hRE.2.1⟩
  simp only [List.map_cons, List.map_nil, List.length_cons, List.length_nil, List.cons_append, List.nil_append, List.replicate, List.set_cons_zero, List.set_cons_succ, seq_set, seq_ret, seq_expr, seq_next, seq_if, seq_asg, seq_seq, seq_cnt, oks_set, oks_ret, oks_expr, oks_next, oks_cnt, oks_if', oks_asg, ok_op, ok_un, ok_c, ok_nil, ok_cons, ok_tup, ok_lst, ok_var0, ok_varS, ok_call, ok_tst, ok_and, ok_or, ok_not, ok_meth, ok_bind, ok_some, ok_ite, ok_mapv, add_ii, add_tt, add_rr, sub_ii, mul_ii, mul_ti, mul_ri, mod_ii, fdiv_ii, pow_ii, lt_ii, get_ti, get_ri, get_rs, len_t, len_r, abs_i, int_b, list_t, list_r, tuple_t, tuple_r, dict_r, is_n, in_t, in_r, addI_ii, subI_ii, min_ii, append_r, key_i, key_s, eq_int, D.bl.injEq, exists_eq_left, exists_eq_left', exists_eq_right, exists_eq_right', exists_eq', Option.some.injEq, decide_eq_true_eq, decide_eq_false_iff_not, Bool.false_eq_true, if_false, if_true, reduceCtorEq, false_implies, true_implies, true_and, and_true, forall_const, imp_self, Bool.not_true, Bool.not_false, Bool.not_eq_true', Bool.not_eq_false', not_true_eq_false, not_false_eq_true, not_true_eq_false, not_false_eq_true, at_lit0, at_lit1, at_lit2, at_lit3, at_lit4, at_lit5, List.length_replicate, z1, z3]
  refine ⟨fun _ => takeA h4.A (by decide) (by decide) fun s5 i i0 i1 A5 f5 z5 => ?_, fun _ => hjmp s4 h4.A h5 L4⟩
  have h55 := h5.pot A5 f5
  have L5 := f5.keep L4 (by simpa using hLP)
  simp only [List.map_cons, List.map_nil, List.length_cons, List.length_nil, List.cons_append, List.nil_append, List.replicate, List.set_cons_zero, List.set_cons_succ, seq_set, seq_ret, seq_expr, seq_next, seq_if, seq_asg, seq_seq, seq_cnt, oks_set, oks_ret, oks_expr, oks_next, oks_cnt, oks_if', oks_asg, ok_op, ok_un, ok_c, ok_nil, ok_cons, ok_tup, ok_lst, ok_var0, ok_varS, ok_call, ok_tst, ok_and, ok_or, ok_not, ok_meth, ok_bind, ok_some, ok_ite, ok_mapv, add_ii, add_tt, add_rr, sub_ii, mul_ii, mul_ti, mul_ri, mod_ii, fdiv_ii, pow_ii, lt_ii, get_ti, get_ri, get_rs, len_t, len_r, abs_i, int_b, list_t, list_r, tuple_t, tuple_r, dict_r, is_n, in_t, in_r, addI_ii, subI_ii, min_ii, append_r, key_i, key_s, eq_int, D.bl.injEq, exists_eq_left, exists_eq_left', exists_eq_right, exists_eq_right', exists_eq', Option.some.injEq, decide_eq_true_eq, decide_eq_false_iff_not, Bool.false_eq_true, if_false, if_true, reduceCtorEq, false_implies, true_implies, true_and, and_true, forall_const, imp_self, Bool.not_true, Bool.not_false, Bool.not_eq_true', Bool.not_eq_false', not_true_eq_false, not_false_eq_true, not_true_eq_false, not_false_eq_true, at_lit0, at_lit1, at_lit2, at_lit3, at_lit4, at_lit5, List.length_replicate, A5.S, st_line]
  refine ⟨fun _ => ?_, fun _ => hjmp s5 A5 h55 L5⟩
  exact hend s5 g4 (.fail g4.ln) (h55.mono (by omega) (Int.le_refl _)) rfl hBe hnx4 hbl4 trivial L5
end
end Mw
/-! A choice of two ways, whole. -/
namespace Mw
open PySem PySem.Spec PyProof.Rows L2 Dn
def ChoiceOk (k r : Nat) : Prop := ∀ {c : Fx} {g : Gs} {st : Sto} {G : D → Sto → Prop}, FxOk c → At c g st → Bk c g → Lim (2 * cbN r + 1000) g → (g.bl.length : Int) + 3 + 2 * bbN r ≤ 8000000 →
  (∀ s g', Go c (2 * cbN r + 1000) (3 + 2 * bbN r) [g'.now] true g g' st s → G .non s) → Ok (Hd.runs k 19 [.ref c.S, .ref c.P, .int (2 - r)] st) G
theorem erase3 {a b d e : Int} (h : [a, b, d, e].Nodup) : [a, b, d, e].erase e = [a, b, d] ∧ [a, b, d].erase d = [a, b] ∧ [a, b].erase b = [a] := by
  simp only [List.nodup_cons, List.mem_cons, List.not_mem_nil, or_false, not_or, List.nodup_nil, and_true, not_false_eq_true] at h
  obtain ⟨⟨h1, h2, h3⟩, ⟨h4, h5⟩, h6⟩ := h
  refine ⟨?_, ?_, ?_⟩
  · simp [List.erase_cons, h3, h5, h6]
  · simp [List.erase_cons, h2, h4]
  · simp [List.erase_cons, h1]
section
variable {c : Fx} {n m : Int} {pd : List Int} {cu : Bool} {g g1 g2 : Gs} {st s1 s2 : Sto} {k : Nat}
/-- three blocks opened -/
theorem open3 {env : Dn.Env} {Q : List D → Sto → Prop} (h : Go c n m pd true g g1 st s1) (hz : (g1.bl.length : Int) + 3 ≤ 8000000)
    (hQ : ∀ s2 g2, Go c n (m + 3) ((g1.bl.length + 2 : Int) :: (g1.bl.length + 1 : Int) :: (g1.bl.length : Int) :: pd) true g g2 st s2 → g2.now = g1.now → g2.bl.length = g1.bl.length + 3 → g2.nx = g1.nx → g2.ln = g1.ln → g2.en = g1.en → g2.B = g1.B → Fm [g1.B] s1 s2 → s2.size = s1.size → Q [.int g1.bl.length, .int (g1.bl.length + 1), .int (g1.bl.length + 2)] s2) :
    Ok (consF (callF 1 (Hd.runs (k + 1) 16) (consF (varF 0) nilF)) (consF (callF 1 (Hd.runs (k + 1) 16) (consF (varF 0) nilF)) (consF (callF 1 (Hd.runs (k + 1) 16) (consF (varF 0) nilF)) nilF)) (some (.ref c.S) :: env) s1) Q := by
  have hs : SZ = 16777216 := by decide
  refine ok_cons.mpr (ok_call.mpr ⟨[.ref c.S], s1, rfl, rfl, open_ok h.A (by omega) fun s2 A2 f2 z2 => ?_⟩)
  have h2 := h.open' A2 f2
  generalize hg2 : ({ g1 with bl := g1.bl ++ [none] } : Gs) = g2 at A2 h2
  have l2 : g2.bl.length = g1.bl.length + 1 := by rw [← hg2]; simp
  have e2 : g2.B = g1.B ∧ g2.now = g1.now ∧ g2.nx = g1.nx ∧ g2.ln = g1.ln ∧ g2.en = g1.en := by rw [← hg2]; exact ⟨rfl, rfl, rfl, rfl, rfl⟩
  refine ok_cons.mpr (ok_call.mpr ⟨[.ref c.S], s2, rfl, rfl, open_ok A2 (by omega) fun s3 A3 f3 z3 => ?_⟩)
  have h3 := h2.open' A3 f3
  generalize hg3 : ({ g2 with bl := g2.bl ++ [none] } : Gs) = g3 at A3 h3
  have l3 : g3.bl.length = g1.bl.length + 2 := by rw [← hg3]; simp [l2]
  have e3 : g3.B = g1.B ∧ g3.now = g1.now ∧ g3.nx = g1.nx ∧ g3.ln = g1.ln ∧ g3.en = g1.en := by rw [← hg3]; exact e2
  refine ok_cons.mpr (ok_call.mpr ⟨[.ref c.S], s3, rfl, rfl, open_ok A3 (by omega) fun s4 A4 f4 z4 => ?_⟩)
  have h4 := h3.open' A4 f4
  generalize hg4 : ({ g3 with bl := g3.bl ++ [none] } : Gs) = g4 at A4 h4
  have l4 : g4.bl.length = g1.bl.length + 3 := by rw [← hg4]; simp [l3]
  have e4 : g4.B = g1.B ∧ g4.now = g1.now ∧ g4.nx = g1.nx ∧ g4.ln = g1.ln ∧ g4.en = g1.en := by rw [← hg4]; exact e3
  refine ok_nil.mpr ?_
  have c2 : (g2.bl.length : Int) = g1.bl.length + 1 := by omega
  have c3 : (g3.bl.length : Int) = g1.bl.length + 2 := by omega
  rw [c2, c3] at h4 ⊢
  refine hQ s4 g4 (h4.mono (Int.le_refl _) (by omega)) e4.2.1 l4 e4.2.2.1 e4.2.2.2.1 e4.2.2.2.2 e4.1 ?_ (by omega)
  rw [e2.1] at f3
  rw [e3.1] at f4
  exact (f2.trans f3 fun i q => .inl q).trans f4 fun i q => .inl q
theorem choice_ok {r : Nat} (hB : BodyOk (k + 6) r) : ChoiceOk (k + 7) r := by
  intro c g st G hF hA hK hlim hbl hG
  show Ok (bodyD _ (Hd.b__law_choice (Hd.runs (k + 6))) _ st) G
  refine ok_body ?_
  unfold Hd.b__law_choice
  have hc0 := cbN_pos r
  have hb0 := bbN_pos r
  refine seq_set.mpr (ok_call.mpr ⟨[.ref c.S, .ref c.P, .tup [.str "truth"]], st, rfl, rfl, name_ok (k := k + 2) (a := .k .tru) hF trivial hA hK.ge (hlim.mono (by omega)) fun s1 g1 x A1 gr1 x0 x1 f1 => ?_⟩)
  have h1 := (Go.start hA hK).gr gr1 A1 f1
  have b1 : g1.bl = g.bl := gr1.bl
  show OkS (seqS _ _ [some (.ref c.S), some (.ref c.P), some (.int (2 - r)), some (.int x), none, none, none, none, none] s1) _
  refine seq_par3 (open3 (k := k + 5) h1 (by rw [b1]; omega) fun s2 g2 h2 e1 e2 e3 e4 e5 e6 f2 z2 => ⟨_, _, _, rfl, ?_⟩)
  generalize hy : (g1.bl.length : Int) = y at h2
  show OkS (seqS _ _ [some (.ref c.S), some (.ref c.P), some (.int (2 - r)), some (.int x), some (.int y), some (.int (y + 1)), some (.int (y + 2)), none, none] s2) _
  obtain ⟨p0, p1, _⟩ := h2.pdo _ (h2.cun rfl)
  have pl := (List.getElem?_eq_some_iff.mp p1).1
  have nw : g2.now = g.now := e1.trans gr1.now
  -- the block ends
  refine seq_expr.mpr (ok_call.mpr ⟨[.ref c.S, (En.branch x y (y + 1)).d], s2, rfl, rfl, end_ok (k := k + 5) h2.A (.branch x y (y + 1)) p0 (by omega) fun s3 A3 f3 z3 => ?_⟩)
  have h3 := h2.end' (en := .branch x y (y + 1)) ⟨⟨x0, by rw [e3]; exact x1⟩, by omega, by omega⟩ A3 f3
  generalize hg3 : ({ g2 with bl := g2.bl.set g2.now.toNat (some ⟨g2.pr, g2.rs, .branch x y (y + 1)⟩) } : Gs) = g3 at A3 h3
  have hnd := h2.pn
  have er := erase3 hnd
  rw [nw, er.1] at h3
  have l3 : g3.bl.length = g1.bl.length + 3 := by rw [← hg3]; simp [e2]
  have eB3 : g3.B = g.B := h3.B
  -- the names kept
  refine seq_set.mpr (copy_env A3 ?_)
  generalize hs4 : s3.push (.lst (g3.en.map pD)) = s4
  have A4 : At c g3 s4 := by rw [← hs4]; exact A3.push
  have h4 := h3.new A4 (by rw [← hs4]; exact Fm.push)
  have L4 : s4.get s3.size = some (.lst (g3.en.map pD)) := by rw [← hs4]; exact Sto.get_push_new
  have hLB : s3.size ≠ g3.B := (A3.new (Nat.le_refl _)).2.1
  have hen := h3.ge.en
  have hel := h3.ge.el
  show OkS (seqS (forS _ _ (armS (Hd.runs (k + 6)))) _ [some (.ref c.S), some (.ref c.P), some (.int (2 - r)), some (.int x), some (.int y), some (.int (y + 1)), some (.int (y + 2)), some (.ref s3.size), none] s4) _
  refine seq_for (oks_for ⟨.tup [.int y, .int (y + 1)], s4, rfl, [.int y, .int (y + 1)], fun i e s => ∃ a8 g', e = [some (.ref c.S), some (.ref c.P), some (.int (2 - r)), some (.int x), some (.int y), some (.int (y + 1)), some (.int (y + 2)), some (.ref s3.size), a8] ∧ s.get s3.size = some (.lst (g3.en.map pD)) ∧ g'.B = g3.B ∧ g3.nx ≤ g'.nx ∧ g3.bl.length ≤ g'.bl.length ∧
    ((i = 0 ∧ Go c (0 + 10) (0 + 3) [y + 2, y + 1, y] false g g' st s) ∨ (i = 1 ∧ Go c (0 + 10 + cbN r + 20) (0 + 3 + bbN r) [y + 2, y + 1] false g g' st s) ∨ (i = 2 ∧ Go c (0 + 10 + cbN r + 20 + cbN r + 20) (0 + 3 + bbN r + bbN r) [y + 2] false g g' st s)), rfl, ⟨none, g3, rfl, L4, rfl, Int.le_refl _, Nat.le_refl _, .inl ⟨rfl, h4⟩⟩, ?_, ?_⟩)
  · rintro i e s d hd ⟨a8, g', rfl, hL, eB, enx, ebl, hgo⟩
    refine ⟨by show some _ = _; rw [hd], _, s, rfl, ?_⟩
    rcases hgo with ⟨rfl, hgo⟩ | ⟨rfl, hgo⟩ | ⟨rfl, hgo⟩
    · cases hd
      refine (arm_ok (r := r) hB hF hgo (hlim.mono (by omega)) (by omega) (by simp) hL (by rw [eB]; exact hLB) (fun e he => by have := hen e he; omega) (by omega) (by omega)).imp fun q hq => ?_
      cases q with
      | nx e s5 =>
        obtain ⟨rfl, g5, h5, L5, eB5, en5, eb5⟩ := hq
        rw [er.2.1] at h5
        exact ⟨_, g5, rfl, L5, eB5.trans eB, by omega, by omega, .inr (.inl ⟨rfl, h5⟩)⟩
      | _ => exact False.elim hq
    · cases hd
      refine (arm_ok (r := r) hB hF hgo (hlim.mono (by omega)) (by omega) (by simp) hL (by rw [eB]; exact hLB) (fun e he => by have := hen e he; omega) (by omega) (by omega)).imp fun q hq => ?_
      cases q with
      | nx e s5 =>
        obtain ⟨rfl, g5, h5, L5, eB5, en5, eb5⟩ := hq
        rw [er.2.2] at h5
        exact ⟨_, g5, rfl, L5, eB5.trans eB, by omega, by omega, .inr (.inr ⟨rfl, h5⟩)⟩
      | _ => exact False.elim hq
    · cases hd
  · rintro e s ⟨a8, g', rfl, hL, eB, enx, ebl, hgo⟩
    refine ⟨rfl, ?_⟩
    rcases hgo with ⟨q, _⟩ | ⟨q, _⟩ | ⟨_, hgo⟩
    · cases q
    · cases q
    refine set_env hgo rfl hL (fun e he => by have := hen e he; omega) (by omega) fun s6 h6 f6 z6 => ?_
    refine oks_expr.mpr (ok_call.mpr ⟨[.ref c.S, .int (y + 2), .tup [Kd.num.d]], s6, rfl, rfl, begin_ok (k := k + 5) (ks := [.num]) h6.A h6.ge (Lim.go (hlim.mono (by show _ + ((1 : Nat) : Int) ≤ _; omega)) h6) (.inl rfl) fun s7 nm R E Pa A7 q7 r0 r1 r2 r3 r4 r5 r6 f7 => ?_⟩)
    have h7 := h6.begin' (p := y + 2) (by simp) A7 f7 r1 r2
    refine hG s7 (Gs.begin { g' with E := s.size, en := g3.en } (y + 2) [.num] R E Pa) (h7.mono (n' := 2 * cbN r + 1000) (m' := 3 + 2 * bbN r) (by show 0 + 10 + cbN r + 20 + cbN r + 20 + ((1 : Nat) : Int) ≤ _; omega) (by omega))
end
end Mw
/-! A loop. -/
namespace Mw
open PySem PySem.Spec PyProof.Rows L2 Dn
theorem ok_sl {f : M D} {lo hi : MO} {env : Dn.Env} {st : Sto} {Q : D → Sto → Prop} {n : Nat} {xs : List D} {l h : Option Int} (h1 : f env st = some (.ref n, st)) (h2 : lo env st = some (l, st)) (h3 : hi env st = some (h, st)) (h4 : st.get n = some (.lst xs)) (q : Q (.ref st.size) (st.push (.lst (Dn.cutD xs l h)))) : Ok (slF f lo hi env st) Q := by
  unfold slF
  rw [h1, Option.bind_some]
  simp only [h2, Option.bind_some, h3, seq_get h4]
  exact ok_some.mpr q
theorem cut_ints (is : List Int) (l h : Option Int) : ∃ js : List Int, Dn.cutD (is.map D.int) l h = js.map D.int ∧ (∀ x ∈ js, x ∈ is) ∧ js.length ≤ is.length := by
  unfold Dn.cutD
  rw [List.length_map]
  refine ⟨(is.drop (HT.sIx is.length 0 l)).take (HT.sIx is.length is.length h - HT.sIx is.length 0 l), by rw [List.map_take, List.map_drop], fun x hx => List.mem_of_mem_drop (List.mem_of_mem_take hx), ?_⟩
  rw [List.length_take, List.length_drop]
  omega
section
variable {c : Fx} {n m : Int} {pd : List Int} {cu : Bool} {g g1 g2 : Gs} {st s1 s2 : Sto} {k : Nat}
def loopD (f : Nat → FnD) : SM := (seqS (exprS (callF 2 (f 18) (consF (varF 0) (consF (tupF (consF (cF (.str "jump")) (consF (varF 6) (consF (unF tupleD (opF addD (varF 14) (lstF (consF (varF 13) nilF)))) nilF)))) nilF))))
  (seqS (asgS (unF listD (varF 12)) (subG (varF 0) (cF (.str "env"))))
  (exprS (callF 3 (f 17) (consF (varF 0) (consF (varF 8) (consF (tupF (nilF)) nilF)))))))
def loopC (f : Nat → FnD) : SM := (seqS (setS 13 (callF 5 (f 13) (consF (varF 0) (consF (varF 3) (consF (cF (.str "-")) (consF (tupF (consF (varF 10) (consF (callF 5 (f 13) (consF (varF 0) (consF (varF 3) (consF (cF (.str "number")) (consF (tupF (nilF)) (consF (tupF (consF (cF (.int 1)) nilF)) nilF)))))) nilF))) (consF (tupF (nilF)) nilF)))))))
  (seqS (setS 14 (opF addD (slF (varF 9) (soF (cF (.int 1))) (soF (varF 4))) (slF (varF 9) (noF) (soF (cF (.int 1))))))
  (seqS (ifS (tstF (opF (eqD false) (callF 2 (f 11) (consF (varF 1) (consF (cF (.int 2)) nilF))) (cF (.int 1)))) (setS 14 (lcF (rng1I (varF 4)) (nameG 15) (yesF) (callF 3 (f 14) (consF (varF 0) (consF (varF 1) (consF (varF 3) nilF)))) [15])) (nextS))
  (seqS (exprS (callF 2 (f 18) (consF (varF 0) (consF (tupF (consF (cF (.str "jump")) (consF (varF 6) (consF (unF tupleD (opF addD (varF 14) (lstF (consF (varF 13) nilF)))) nilF)))) nilF))))
  (seqS (asgS (unF listD (varF 12)) (subG (varF 0) (cF (.str "env"))))
  (exprS (callF 3 (f 17) (consF (varF 0) (consF (varF 8) (consF (tupF (nilF)) nilF))))))))))
/-- objects that the state does not hold -/
def Away (c : Fx) (g : Gs) (L : Nat) : Prop := L ≠ c.S ∧ L ≠ c.P ∧ L ≠ g.B ∧ L ≠ g.R ∧ L ≠ g.E
theorem Away.gr {k : Int} {L : Nat} (h : Away c g1 L) (r : Gr k g1 g2) : Away c g2 L := by
  obtain ⟨a, b, d, e, f⟩ := h
  exact ⟨a, b, by rw [r.B]; exact d, by rw [r.R]; exact e, by rw [r.E]; exact f⟩
theorem Away.nm {L : Nat} (h : Away c g1 L) : L ∉ [c.S, c.P, g1.R, g1.E] := by
  obtain ⟨a, b, d, e, f⟩ := h
  simp only [List.mem_cons, List.not_mem_nil, or_false, not_or]
  exact ⟨a, b, e, f⟩
theorem loopC_ok {nm L : Nat} {is : List Int} {en : List (Int × Kd)} {more head left out : Int} {a5 a7 a11 a13 a14 a15 : Option D} {R : Res → Prop} (hF : FxOk c) (h : Go c n m pd true g g1 st s1) (hlim : Lim (n + 150) g) (hm : 1 ≤ more ∧ more ≤ 9)
    (hnm : s1.get nm = some (.lst (is.map .int))) (hnA : Away c g1 nm) (his : ∀ x ∈ is, 0 ≤ x ∧ x < g1.nx) (hil : is.length ≤ 10) (hleft : 0 ≤ left ∧ left < g1.nx) (hhead : 0 ≤ head ∧ head < g1.bl.length)
    (hL : s1.get L = some (.lst (en.map pD))) (hLA : Away c g1 L) (he : ∀ e ∈ en, 0 ≤ e.1 ∧ e.1 < g1.nx) (hel : (en.length : Int) ≤ g1.nx) (hpd : pd.erase g1.now = [out])
    (hk : ∀ e s g', Go c (n + 150) m [out] true g g' st s → R (.nx e s)) :
    OkS (loopC (Hd.runs (k + 6)) [some (.ref c.S), some (.ref c.P), some (.int (2 - r)), some Kd.num.d, some (.int more), a5, some (.int head), a7, some (.int out), some (.ref nm), some (.int left), a11, some (.ref L), a13, a14, a15] s1) R := by
  have z1 : 0 + 1 ≤ SZ := by decide
  have z2 : 0 + 1 + 1 ≤ SZ := by decide
  have z0 : 0 ≤ SZ := by decide
  have z3 : 0 + 1 + 1 + 1 ≤ SZ := by decide
  have hs : SZ = 16777216 := by decide
  unfold loopC
  -- one less
  refine seq_set.mpr ?_
  simp only [List.map_cons, List.map_nil, List.length_cons, List.length_nil, List.cons_append, List.nil_append, List.replicate, List.set_cons_zero, List.set_cons_succ, ok_op, ok_un, ok_c, ok_nil, ok_cons, ok_tup, ok_lst, ok_var0, ok_varS, ok_call, ok_tst, ok_and, ok_or, ok_not, ok_meth, ok_bind, ok_some, ok_ite, ok_mapv, add_ii, add_tt, add_rr, sub_ii, mul_ii, mul_ti, mul_ri, mod_ii, fdiv_ii, pow_ii, lt_ii, get_ti, get_ri, get_rs, len_t, len_r, abs_i, int_b, list_t, list_r, tuple_t, tuple_r, dict_r, is_n, in_t, in_r, addI_ii, subI_ii, min_ii, append_r, key_i, key_s, eq_int, D.bl.injEq, exists_eq_left, exists_eq_left', exists_eq_right, exists_eq_right', exists_eq', Option.some.injEq, decide_eq_true_eq, decide_eq_false_iff_not, Bool.false_eq_true, if_false, if_true, reduceCtorEq, false_implies, true_implies, true_and, and_true, forall_const, imp_self, Bool.not_true, Bool.not_false, Bool.not_eq_true', Bool.not_eq_false', not_true_eq_false, not_false_eq_true, not_true_eq_false, not_false_eq_true, at_lit0, at_lit1, at_lit2, at_lit3, at_lit4, at_lit5, List.length_replicate, z0, z1, z2]
  refine put1 (k := k + 5) (kd := some .num) (xs := []) (n := 2) h.A h.ge (Lim.go (hlim.mono (by omega)) h) (by omega) (.inl rfl) (by simp) fun s2 g2 A2 gr2 eg2 f2 w2 => ?_
  have h2 := h.gr gr2 A2 f2
  have x2 : g1.nx < g2.nx := by rw [eg2]; show g1.nx < g1.nx + 1; omega
  have hg0 := h.ge.nx
  refine put1 (k := k + 5) (kd := some .num) (xs := [left, g1.nx]) (n := 1) A2 h2.ge (Lim.go (hlim.mono (by omega)) h2) (by omega) (.inl rfl) (fun a ha => by
    simp only [List.mem_cons, List.not_mem_nil, or_false] at ha
    rcases ha with rfl | rfl <;> omega) fun s3 g3 A3 gr3 eg3 f3 w3 => ?_
  have h3 := h2.gr gr3 A3 f3
  have x3 : g2.nx < g3.nx := by rw [eg3]; show g2.nx < g2.nx + 1; omega
  have q3 : s3.get nm = some (.lst (is.map .int)) := f3.keep (f2.keep hnm hnA.nm) (hnA.gr gr2).nm
  have L3 : s3.get L = some (.lst (en.map pD)) := f3.keep (f2.keep hL hLA.nm) (hLA.gr gr2).nm
  show OkS (seqS _ _ [some (.ref c.S), some (.ref c.P), some (.int (2 - r)), some Kd.num.d, some (.int more), a5, some (.int head), a7, some (.int out), some (.ref nm), some (.int left), a11, some (.ref L), some (.int g2.nx), a14, a15] s3) _
  -- the names turned about
  refine seq_set.mpr (ok_op.mpr ?_)
  obtain ⟨j1, c1, m1, l1⟩ := cut_ints is (some 1) (some more)
  obtain ⟨j2, c2, m2, l2⟩ := cut_ints is none (some 1)
  refine ok_sl (n := nm) (l := some 1) (h := some more) rfl rfl rfl q3 ?_
  rw [c1]
  generalize hs4 : s3.push (.lst (j1.map .int)) = s4
  have e4 : s4.get s3.size = some (.lst (j1.map .int)) := by rw [← hs4]; exact Sto.get_push_new
  have q4 : s4.get nm = some (.lst (is.map .int)) := by rw [← hs4, Sto.get_push_lt (Sto.get_lt q3)]; exact q3
  refine ok_sl (n := nm) (l := none) (h := some 1) rfl rfl rfl q4 ?_
  rw [c2]
  generalize hs5 : s4.push (.lst (j2.map .int)) = s5
  have w4 : s4.size = s3.size + 1 := by rw [← hs4, Sto.size_push]
  have w5 : s5.size = s3.size + 2 := by rw [← hs5, Sto.size_push, w4]
  have e5 : s5.get s3.size = some (.lst (j1.map .int)) := by rw [← hs5, Sto.get_push_lt (by omega)]; exact e4
  have e6 : s5.get s4.size = some (.lst (j2.map .int)) := by rw [← hs5]; exact Sto.get_push_new
  rw [add_rr, e5, e6]
  simp only
  rw [if_pos (by rw [List.length_map, List.length_map]; omega), ← List.map_append]
  refine ok_some.mpr ?_
  generalize hs6 : s5.push (.lst ((j1 ++ j2).map .int)) = s6
  have w6 : s6.size = s3.size + 3 := by rw [← hs6, Sto.size_push, w5]
  have f36 : Fm [] s3 s6 := by
    rw [← hs6, ← hs5, ← hs4]
    exact (Fm.push.trans (Fm.push (W := [])) fun i q => by cases q).trans (Fm.push (W := [])) fun i q => by cases q
  have A6 := A3.fm0 f36
  have h6 := h3.new A6 f36
  have T6 : s6.get s5.size = some (.lst ((j1 ++ j2).map .int)) := by rw [← hs6]; exact Sto.get_push_new
  have L6 := f36.keep L3 (by simp)
  have tin : ∀ x ∈ j1 ++ j2, 0 ≤ x ∧ x < g3.nx := fun x hx => by
    rcases List.mem_append.mp hx with hx | hx
    · have := his x (m1 x hx); omega
    · have := his x (m2 x hx); omega
  have TA : ∀ {n : Nat}, s3.size ≤ n → Away c g3 n := fun hn => by
    obtain ⟨a1, a2, a3, a4, a5, a6, a7, a8⟩ := A3.new hn
    exact ⟨a1, a7, a2, a3, a4⟩
  show OkS (seqS _ _ [some (.ref c.S), some (.ref c.P), some (.int (2 - r)), some Kd.num.d, some (.int more), a5, some (.int head), a7, some (.int out), some (.ref nm), some (.int left), a11, some (.ref L), some (.int g2.nx), some (.ref s5.size), a15] s6) _
  -- how it goes on: with any list of names handed back
  have go : ∀ (s7 : Sto) (g7 : Gs) (T : Nat) (ts : List Int), Go c (n + 140) m pd true g g7 st s7 → g7.now = g1.now → g7.bl.length = g1.bl.length → g3.nx ≤ g7.nx → s7.get T = some (.lst (ts.map .int)) → ts.length ≤ 100 → (∀ x ∈ ts, 0 ≤ x ∧ x < g7.nx) → s7.get L = some (.lst (en.map pD)) → Away c g7 L →
      OkS (loopD (Hd.runs (k + 6)) [some (.ref c.S), some (.ref c.P), some (.int (2 - r)), some Kd.num.d, some (.int more), a5, some (.int head), a7, some (.int out), some (.ref nm), some (.int left), a11, some (.ref L), some (.int g2.nx), some (.ref T), a15] s7) R := by
    intro s7 g7 T ts h7 n7 b7 x7 T7 tl7 ti7 L7 LA7
    unfold loopD
    refine seq_expr.mpr ?_
    simp only [List.map_cons, List.map_nil, List.length_cons, List.length_nil, List.cons_append, List.nil_append, List.replicate, List.set_cons_zero, List.set_cons_succ, ok_op, ok_un, ok_c, ok_nil, ok_cons, ok_tup, ok_lst, ok_var0, ok_varS, ok_call, ok_tst, ok_and, ok_or, ok_not, ok_meth, ok_bind, ok_some, ok_ite, ok_mapv, add_ii, add_tt, add_rr, sub_ii, mul_ii, mul_ti, mul_ri, mod_ii, fdiv_ii, pow_ii, lt_ii, get_ti, get_ri, get_rs, len_t, len_r, abs_i, int_b, list_t, list_r, tuple_t, tuple_r, dict_r, is_n, in_t, in_r, addI_ii, subI_ii, min_ii, append_r, key_i, key_s, eq_int, D.bl.injEq, exists_eq_left, exists_eq_left', exists_eq_right, exists_eq_right', exists_eq', Option.some.injEq, decide_eq_true_eq, decide_eq_false_iff_not, Bool.false_eq_true, if_false, if_true, reduceCtorEq, false_implies, true_implies, true_and, and_true, forall_const, imp_self, Bool.not_true, Bool.not_false, Bool.not_eq_true', Bool.not_eq_false', not_true_eq_false, not_false_eq_true, not_true_eq_false, not_false_eq_true, at_lit0, at_lit1, at_lit2, at_lit3, at_lit4, at_lit5, List.length_replicate, z1]
    generalize hs8 : s7.push (.lst [.int g2.nx]) = s8
    have e7 : s8.get T = some (.lst (ts.map .int)) := by rw [← hs8, Sto.get_push_lt (Sto.get_lt T7)]; exact T7
    have e8 : s8.get s7.size = some (.lst [.int g2.nx]) := by rw [← hs8]; exact Sto.get_push_new
    have zl : (ts.map D.int).length + (0 + 1) ≤ SZ := by rw [List.length_map]; omega
    rw [e7, e8]
    simp only [List.map_cons, List.map_nil, List.length_cons, List.length_nil, List.cons_append, List.nil_append, List.replicate, List.set_cons_zero, List.set_cons_succ, ok_op, ok_un, ok_c, ok_nil, ok_cons, ok_tup, ok_lst, ok_var0, ok_varS, ok_call, ok_tst, ok_and, ok_or, ok_not, ok_meth, ok_bind, ok_some, ok_ite, ok_mapv, add_ii, add_tt, add_rr, sub_ii, mul_ii, mul_ti, mul_ri, mod_ii, fdiv_ii, pow_ii, lt_ii, get_ti, get_ri, get_rs, len_t, len_r, abs_i, int_b, list_t, list_r, tuple_t, tuple_r, dict_r, is_n, in_t, in_r, addI_ii, subI_ii, min_ii, append_r, key_i, key_s, eq_int, D.bl.injEq, exists_eq_left, exists_eq_left', exists_eq_right, exists_eq_right', exists_eq', Option.some.injEq, decide_eq_true_eq, decide_eq_false_iff_not, Bool.false_eq_true, if_false, if_true, reduceCtorEq, false_implies, true_implies, true_and, and_true, forall_const, imp_self, Bool.not_true, Bool.not_false, Bool.not_eq_true', Bool.not_eq_false', not_true_eq_false, not_false_eq_true, not_true_eq_false, not_false_eq_true, at_lit0, at_lit1, at_lit2, at_lit3, at_lit4, at_lit5, List.length_replicate, zl]
    have eap : ts.map D.int ++ [.int g2.nx] = (ts ++ [g2.nx]).map .int := by rw [List.map_append]; rfl
    rw [eap]
    generalize hs9 : s8.push (.lst ((ts ++ [g2.nx]).map .int)) = s9
    have f79 : Fm [] s7 s9 := by
      rw [← hs9, ← hs8]
      exact Fm.push.trans (Fm.push (W := [])) fun i q => by cases q
    have A9 := h7.A.fm0 f79
    have h9 := h7.new A9 f79
    have e9 : s9.get s8.size = some (.lst ((ts ++ [g2.nx]).map .int)) := by rw [← hs9]; exact Sto.get_push_new
    have L9 := f79.keep L7 (by simp)
    rw [seq_get e9]
    simp only [List.map_cons, List.map_nil, List.length_cons, List.length_nil, List.cons_append, List.nil_append, List.replicate, List.set_cons_zero, List.set_cons_succ, ok_op, ok_un, ok_c, ok_nil, ok_cons, ok_tup, ok_lst, ok_var0, ok_varS, ok_call, ok_tst, ok_and, ok_or, ok_not, ok_meth, ok_bind, ok_some, ok_ite, ok_mapv, add_ii, add_tt, add_rr, sub_ii, mul_ii, mul_ti, mul_ri, mod_ii, fdiv_ii, pow_ii, lt_ii, get_ti, get_ri, get_rs, len_t, len_r, abs_i, int_b, list_t, list_r, tuple_t, tuple_r, dict_r, is_n, in_t, in_r, addI_ii, subI_ii, min_ii, append_r, key_i, key_s, eq_int, D.bl.injEq, exists_eq_left, exists_eq_left', exists_eq_right, exists_eq_right', exists_eq', Option.some.injEq, decide_eq_true_eq, decide_eq_false_iff_not, Bool.false_eq_true, if_false, if_true, reduceCtorEq, false_implies, true_implies, true_and, and_true, forall_const, imp_self, Bool.not_true, Bool.not_false, Bool.not_eq_true', Bool.not_eq_false', not_true_eq_false, not_false_eq_true, not_true_eq_false, not_false_eq_true, at_lit0, at_lit1, at_lit2, at_lit3, at_lit4, at_lit5, List.length_replicate, z3]
    obtain ⟨p0, p1, _⟩ := h9.pdo _ (h9.cun rfl)
    have pl := (List.getElem?_eq_some_iff.mp p1).1
    have hE : EOk g7.nx g7.bl.length (.jump head (ts ++ [g2.nx])) := ⟨⟨hhead.1, by rw [b7]; exact hhead.2⟩, fun a ha => by
      rcases List.mem_append.mp ha with ha | ha
      · exact ti7 a ha
      · simp only [List.mem_cons, List.not_mem_nil, or_false] at ha
        subst ha
        exact ⟨by omega, by omega⟩, by rw [List.length_append]; show ts.length + 1 ≤ SZ; omega⟩
    refine end_ok (k := k + 5) A9 (.jump head (ts ++ [g2.nx])) p0 (by omega) fun s10 A10 f10 z10 => ?_
    have h10 := h9.end' hE A10 f10
    rw [n7, hpd] at h10
    rw [n7] at A10
    have L10 := f10.keep L9 (by simpa using LA7.2.2.1)
    have x17 : g1.nx ≤ g7.nx := by omega
    refine set_env h10 rfl L10 (fun e he' => by have := he e he'; show 0 ≤ e.1 ∧ e.1 < g7.nx; omega) (by show (en.length : Int) ≤ g7.nx; omega) fun s11 h11 f11 z11 => ?_
    refine oks_expr.mpr (ok_call.mpr ⟨[.ref c.S, .int out, .tup []], s11, rfl, rfl, begin_ok (k := k + 5) (ks := []) h11.A h11.ge (Lim.go (hlim.mono (by show n + 140 + ((0 : Nat) : Int) ≤ _; omega)) h11) (.inl rfl) fun s12 nm' R' E' Pa' A12 q12 r0 r1 r2 r3 r4 r5 r6 f12 => ?_⟩)
    have h12 := h11.begin' (p := out) (by simp) A12 f12 r1 r2
    exact hk _ s12 _ ((h12.mono (n' := n + 150) (m' := m) (by show n + 140 + ((0 : Nat) : Int) ≤ _; omega) (Int.le_refl _)))
  refine seq_if.mpr ?_
  simp only [List.map_cons, List.map_nil, List.length_cons, List.length_nil, List.cons_append, List.nil_append, List.replicate, List.set_cons_zero, List.set_cons_succ, ok_op, ok_un, ok_c, ok_nil, ok_cons, ok_tup, ok_lst, ok_var0, ok_varS, ok_call, ok_tst, ok_and, ok_or, ok_not, ok_meth, ok_bind, ok_some, ok_ite, ok_mapv, add_ii, add_tt, add_rr, sub_ii, mul_ii, mul_ti, mul_ri, mod_ii, fdiv_ii, pow_ii, lt_ii, get_ti, get_ri, get_rs, len_t, len_r, abs_i, int_b, list_t, list_r, tuple_t, tuple_r, dict_r, is_n, in_t, in_r, addI_ii, subI_ii, min_ii, append_r, key_i, key_s, eq_int, D.bl.injEq, exists_eq_left, exists_eq_left', exists_eq_right, exists_eq_right', exists_eq', Option.some.injEq, decide_eq_true_eq, decide_eq_false_iff_not, Bool.false_eq_true, if_false, if_true, reduceCtorEq, false_implies, true_implies, true_and, and_true, forall_const, imp_self, Bool.not_true, Bool.not_false, Bool.not_eq_true', Bool.not_eq_false', not_true_eq_false, not_false_eq_true, not_true_eq_false, not_false_eq_true, at_lit0, at_lit1, at_lit2, at_lit3, at_lit4, at_lit5, List.length_replicate]
  have n13 : g3.now = g1.now := gr3.now.trans gr2.now
  have b13 : g3.bl = g1.bl := gr3.bl.trans gr2.bl
  have LA3 : Away c g3 L := (hLA.gr gr2).gr gr3
  refine takeA A6 (by decide) (by decide) fun s7 i i0 i1 A7 f7 z7 => ?_
  have h7 := h6.pot A7 f7
  have T7 := f7.keep T6 (by
    simp only [List.mem_cons, List.not_mem_nil, or_false]
    exact (TA (n := s5.size) (by omega)).2.1)
  have L7 := f7.keep L6 (by simpa using LA3.2.1)
  simp only [List.map_cons, List.map_nil, List.length_cons, List.length_nil, List.cons_append, List.nil_append, List.replicate, List.set_cons_zero, List.set_cons_succ, ok_op, ok_un, ok_c, ok_nil, ok_cons, ok_tup, ok_lst, ok_var0, ok_varS, ok_call, ok_tst, ok_and, ok_or, ok_not, ok_meth, ok_bind, ok_some, ok_ite, ok_mapv, add_ii, add_tt, add_rr, sub_ii, mul_ii, mul_ti, mul_ri, mod_ii, fdiv_ii, pow_ii, lt_ii, get_ti, get_ri, get_rs, len_t, len_r, abs_i, int_b, list_t, list_r, tuple_t, tuple_r, dict_r, is_n, in_t, in_r, addI_ii, subI_ii, min_ii, append_r, key_i, key_s, eq_int, D.bl.injEq, exists_eq_left, exists_eq_left', exists_eq_right, exists_eq_right', exists_eq', Option.some.injEq, decide_eq_true_eq, decide_eq_false_iff_not, Bool.false_eq_true, if_false, if_true, reduceCtorEq, false_implies, true_implies, true_and, and_true, forall_const, imp_self, Bool.not_true, Bool.not_false, Bool.not_eq_true', Bool.not_eq_false', not_true_eq_false, not_false_eq_true, not_true_eq_false, not_false_eq_true, at_lit0, at_lit1, at_lit2, at_lit3, at_lit4, at_lit5, List.length_replicate]
  refine ⟨fun _ => ?_, fun _ => ?_⟩
  · refine seq_set.mpr ?_
    refine names_lc (k := k + 6) (m := 10) (bs := List.replicate more.toNat (.k .num)) hF A7 h7.ge (by decide) (Lim.go (hlim.mono (by rw [List.length_replicate]; omega)) h7) (by rw [List.length_replicate]; omega) (fun b hb2 => ?_) ⟨.rng 0 more.toNat, (List.range more.toNat).map fun i => .int (0 + (i : Nat)), ?_, by simp, pure_rng, fun i y b hy hb2 s => ⟨_, rfl, rfl, fun Q q => ?_⟩⟩ fun s8 g8 ts A8 hg8 hl8 hx8 hq8 hf8 => ?_
    · rw [List.eq_of_mem_replicate hb2]
      exact ⟨trivial, name_ok (k := k + 2)⟩
    · unfold rng1I
      show (some (D.int more, s7)).bind _ = _
      rw [Option.bind_some]
      simp only
      rw [if_pos (by omega)]
    · have eb := List.eq_of_mem_replicate (List.mem_of_getElem? hb2)
      subst eb
      simp only [List.map_cons, List.map_nil, List.length_cons, List.length_nil, List.cons_append, List.nil_append, List.replicate, List.set_cons_zero, List.set_cons_succ, ok_op, ok_un, ok_c, ok_nil, ok_cons, ok_tup, ok_lst, ok_var0, ok_varS, ok_call, ok_tst, ok_and, ok_or, ok_not, ok_meth, ok_bind, ok_some, ok_ite, ok_mapv, add_ii, add_tt, add_rr, sub_ii, mul_ii, mul_ti, mul_ri, mod_ii, fdiv_ii, pow_ii, lt_ii, get_ti, get_ri, get_rs, len_t, len_r, abs_i, int_b, list_t, list_r, tuple_t, tuple_r, dict_r, is_n, in_t, in_r, addI_ii, subI_ii, min_ii, append_r, key_i, key_s, eq_int, D.bl.injEq, exists_eq_left, exists_eq_left', exists_eq_right, exists_eq_right', exists_eq', Option.some.injEq, decide_eq_true_eq, decide_eq_false_iff_not, Bool.false_eq_true, if_false, if_true, reduceCtorEq, false_implies, true_implies, true_and, and_true, forall_const, imp_self, Bool.not_true, Bool.not_false, Bool.not_eq_true', Bool.not_eq_false', not_true_eq_false, not_false_eq_true, not_true_eq_false, not_false_eq_true, at_lit0, at_lit1, at_lit2, at_lit3, at_lit4, at_lit5, List.length_replicate, wipeE]
      exact q
    · rw [List.length_replicate] at hg8 hl8
      refine go s8 g8 s7.size ts ((h7.gr hg8 A8 hf8).mono (by omega) (Int.le_refl _)) (hg8.now.trans n13) (by rw [hg8.bl, b13]) hg8.nx.1 hq8 (by omega) hx8 (hf8.keep L7 LA3.nm) (LA3.gr hg8)
  · refine seq_next.mpr (go s7 g3 s5.size (j1 ++ j2) (h7.mono (by omega) (Int.le_refl _)) n13 (by rw [b13]) (Int.le_refl _) T7 (by rw [List.length_append]; omega) tin L7 LA3)
end
end Mw
/-! A loop, from its head's rows on. -/
namespace Mw
open PySem PySem.Spec PyProof.Rows L2 Dn
section
variable {c : Fx} {n m : Int} {pd : List Int} {cu : Bool} {g g1 g2 : Gs} {st s1 s2 : Sto} {k : Nat}
def loopB (f : Nat → FnD) : SM := (seqS (exprS (callF 5 (f 13) (consF (varF 0) (consF (cF .non) (consF (cF (.str "tick")) (consF (tupF (nilF)) (consF (tupF (nilF)) nilF)))))))
  (seqS (setS 11 (callF 5 (f 13) (consF (varF 0) (consF (tupF (consF (cF (.str "truth")) nilF)) (consF (cF (.str "<")) (consF (tupF (consF (callF 5 (f 13) (consF (varF 0) (consF (varF 3) (consF (cF (.str "number")) (consF (tupF (nilF)) (consF (tupF (consF (cF (.int 0)) nilF)) nilF)))))) (consF (varF 10) nilF))) (consF (tupF (nilF)) nilF)))))))
  (seqS (ifS (tstF (opF (eqD false) (callF 2 (f 11) (consF (varF 1) (consF (cF (.int 8)) nilF))) (cF (.int 7)))) (setS 11 (callF 3 (f 14) (consF (varF 0) (consF (varF 1) (consF (tupF (consF (cF (.str "truth")) nilF)) nilF))))) (nextS))
  (seqS (exprS (callF 2 (f 18) (consF (varF 0) (consF (tupF (consF (cF (.str "branch")) (consF (varF 11) (consF (varF 7) (consF (varF 8) nilF))))) nilF))))
  (seqS (setS 12 (unF listD (opF getD (varF 0) (cF (.str "env")))))
  (seqS (exprS (callF 3 (f 17) (consF (varF 0) (consF (varF 7) (consF (tupF (nilF)) nilF)))))
  (seqS (exprS (callF 3 (f 21) (consF (varF 0) (consF (varF 1) (consF (opF addD (varF 2) (cF (.int 1))) nilF)))))
  (loopC f))))))))
theorem erase2 {a b d : Int} (h : [a, b, d].Nodup) : [a, b, d].erase d = [a, b] ∧ [a, b].erase b = [a] := by
  simp only [List.nodup_cons, List.mem_cons, List.not_mem_nil, or_false, not_or, List.nodup_nil, and_true, not_false_eq_true] at h
  obtain ⟨⟨h1, h2⟩, h3⟩ := h
  refine ⟨?_, ?_⟩
  · simp [List.erase_cons, h2, h3]
  · simp [List.erase_cons, h1]
theorem loopB_ok {r : Nat} {nm : Nat} {is : List Int} {more head body left out : Int} {a5 a11 a12 a13 a14 a15 : Option D} {R : Res → Prop} (hB : BodyOk (k + 6) r) (hF : FxOk c) (h : Go c n m [out, body, head] true g g1 st s1) (hlim : Lim (n + cbN r + 170) g) (hbl : (g.bl.length : Int) + m + bbN r ≤ 8000000) (hm : 1 ≤ more ∧ more ≤ 9)
    (hnow : g1.now = head) (hnm : s1.get nm = some (.lst (is.map .int))) (hnA : Away c g1 nm) (his : ∀ x ∈ is, 0 ≤ x ∧ x < g1.nx) (hil : is.length ≤ 10) (hleft : 0 ≤ left ∧ left < g1.nx)
    (hk : ∀ e s g', Go c (n + cbN r + 170) (m + bbN r) [out] true g g' st s → R (.nx e s)) :
    OkS (loopB (Hd.runs (k + 6)) [some (.ref c.S), some (.ref c.P), some (.int (2 - r)), some Kd.num.d, some (.int more), a5, some (.int head), some (.int body), some (.int out), some (.ref nm), some (.int left), a11, a12, a13, a14, a15] s1) R := by
  have z1 : 0 + 1 ≤ SZ := by decide
  have z2 : 0 + 1 + 1 ≤ SZ := by decide
  have z0 : 0 ≤ SZ := by decide
  have z4 : 0 + 1 + 1 + 1 + 1 ≤ SZ := by decide
  have hs : SZ = 16777216 := by decide
  have hc0 := cbN_pos r
  have hb0 := bbN_pos r
  have hg0 := h.ge.nx
  have hpb : ∀ p ∈ [out, body, head], 0 ≤ p ∧ p < g1.bl.length := fun p hp => by
    obtain ⟨a, b, _⟩ := h.pdo p hp
    have := (List.getElem?_eq_some_iff.mp b).1
    omega
  have pb := hpb body (by simp)
  have po := hpb out (by simp)
  have ph := hpb head (by simp)
  have er := erase2 h.pn
  unfold loopB
  -- the tick
  refine seq_expr.mpr (ok_call.mpr ⟨[.ref c.S, oK none, .str "tick", .tup [], .tup []], s1, rfl, rfl, put1 (k := k + 5) (kd := none) (xs := []) (n := 3) h.A h.ge (Lim.go (hlim.mono (by omega)) h) (by omega) (.inl rfl) (by simp) fun s2 g2 A2 gr2 eg2 f2 w2 => ?_⟩)
  have h2 := h.gr gr2 A2 f2
  -- what is asked
  refine seq_set.mpr ?_
  simp only [List.map_cons, List.map_nil, List.length_cons, List.length_nil, List.cons_append, List.nil_append, List.replicate, List.set_cons_zero, List.set_cons_succ, ok_op, ok_un, ok_c, ok_nil, ok_cons, ok_tup, ok_lst, ok_var0, ok_varS, ok_call, ok_tst, ok_and, ok_or, ok_not, ok_meth, ok_bind, ok_some, ok_ite, ok_mapv, add_ii, add_tt, add_rr, sub_ii, mul_ii, mul_ti, mul_ri, mod_ii, fdiv_ii, pow_ii, lt_ii, get_ti, get_ri, get_rs, len_t, len_r, abs_i, int_b, list_t, list_r, tuple_t, tuple_r, dict_r, is_n, in_t, in_r, addI_ii, subI_ii, min_ii, append_r, key_i, key_s, eq_int, D.bl.injEq, exists_eq_left, exists_eq_left', exists_eq_right, exists_eq_right', exists_eq', Option.some.injEq, decide_eq_true_eq, decide_eq_false_iff_not, Bool.false_eq_true, if_false, if_true, reduceCtorEq, false_implies, true_implies, true_and, and_true, forall_const, imp_self, Bool.not_true, Bool.not_false, Bool.not_eq_true', Bool.not_eq_false', not_true_eq_false, not_false_eq_true, not_true_eq_false, not_false_eq_true, at_lit0, at_lit1, at_lit2, at_lit3, at_lit4, at_lit5, List.length_replicate, z0, z1, z2]
  refine put1 (k := k + 5) (kd := some .num) (xs := []) (n := 2) A2 h2.ge (Lim.go (hlim.mono (by omega)) h2) (by omega) (.inl rfl) (by simp) fun s3 g3 A3 gr3 eg3 f3 w3 => ?_
  have h3 := h2.gr gr3 A3 f3
  have x2 := gr2.nx
  have x3 : g2.nx < g3.nx := by rw [eg3]; show g2.nx < g2.nx + 1; omega
  have hg2 := h2.ge.nx
  refine put1 (k := k + 5) (kd := some .tru) (xs := [g2.nx, left]) (n := 1) A3 h3.ge (Lim.go (hlim.mono (by omega)) h3) (by omega) (.inl rfl) (fun a ha => by
    simp only [List.mem_cons, List.not_mem_nil, or_false] at ha
    rcases ha with rfl | rfl <;> omega) fun s4 g4 A4 gr4 eg4 f4 w4 => ?_
  have h4 := h3.gr gr4 A4 f4
  have x4 : g3.nx < g4.nx := by rw [eg4]; show g3.nx < g3.nx + 1; omega
  have nA4 := ((hnA.gr gr2).gr gr3).gr gr4
  have q4 : s4.get nm = some (.lst (is.map .int)) := f4.keep (f3.keep (f2.keep hnm hnA.nm) (hnA.gr gr2).nm) ((hnA.gr gr2).gr gr3).nm
  have n4 : g4.now = head := gr4.now.trans (gr3.now.trans (gr2.now.trans hnow))
  have b4 : g4.bl = g1.bl := gr4.bl.trans (gr3.bl.trans gr2.bl)
  show OkS (seqS _ _ [some (.ref c.S), some (.ref c.P), some (.int (2 - r)), some Kd.num.d, some (.int more), a5, some (.int head), some (.int body), some (.int out), some (.ref nm), some (.int left), some (.int g3.nx), a12, a13, a14, a15] s4) _
  -- how it goes on with what is asked
  have go : ∀ (s5 : Sto) (g5 : Gs) (asked : Int), Go c (n + 20) m [out, body, head] true g g5 st s5 → g5.now = head → g5.bl = g1.bl → g4.nx ≤ g5.nx → 0 ≤ asked → asked < g5.nx → s5.get nm = some (.lst (is.map .int)) → Away c g5 nm →
      OkS ((seqS (exprS (callF 2 (Hd.runs (k + 6) 18) (consF (varF 0) (consF (tupF (consF (cF (.str "branch")) (consF (varF 11) (consF (varF 7) (consF (varF 8) nilF))))) nilF))))
  (seqS (setS 12 (unF listD (opF getD (varF 0) (cF (.str "env")))))
  (seqS (exprS (callF 3 (Hd.runs (k + 6) 17) (consF (varF 0) (consF (varF 7) (consF (tupF (nilF)) nilF)))))
  (seqS (exprS (callF 3 (Hd.runs (k + 6) 21) (consF (varF 0) (consF (varF 1) (consF (opF addD (varF 2) (cF (.int 1))) nilF)))))
  (loopC (Hd.runs (k + 6))))))) [some (.ref c.S), some (.ref c.P), some (.int (2 - r)), some Kd.num.d, some (.int more), a5, some (.int head), some (.int body), some (.int out), some (.ref nm), some (.int left), some (.int asked), a12, a13, a14, a15] s5) R := by
    intro s5 g5 asked h5 n5 b5 x5 k0 k1 q5 nA5
    refine seq_expr.mpr (ok_call.mpr ⟨[.ref c.S, (En.branch asked body out).d], s5, rfl, rfl, end_ok (k := k + 5) h5.A (.branch asked body out) (by rw [n5]; exact ph.1) (by rw [n5, b5]; exact ph.2) fun s6 A6 f6 z6 => ?_⟩)
    have h6 := h5.end' (en := .branch asked body out) ⟨⟨k0, k1⟩, by rw [b5]; exact pb, by rw [b5]; exact po⟩ A6 f6
    generalize hg6 : ({ g5 with bl := g5.bl.set g5.now.toNat (some ⟨g5.pr, g5.rs, .branch asked body out⟩) } : Gs) = g6 at A6 h6
    have e6 : g6.B = g5.B ∧ g6.nx = g5.nx ∧ g6.R = g5.R ∧ g6.E = g5.E ∧ g6.bl.length = g1.bl.length := by
      rw [← hg6]; exact ⟨rfl, rfl, rfl, rfl, by rw [← b5]; simp⟩
    rw [n5, er.1] at h6
    have q6 := f6.keep q5 (by simpa using nA5.2.2.1)
    -- the names kept
    refine seq_set.mpr (copy_env A6 ?_)
    generalize hs7 : s6.push (.lst (g6.en.map pD)) = s7
    have f67 : Fm [] s6 s7 := by rw [← hs7]; exact Fm.push
    have A7 := A6.fm0 f67
    have h7 := h6.new A7 f67
    have L7 : s7.get s6.size = some (.lst (g6.en.map pD)) := by rw [← hs7]; exact Sto.get_push_new
    have q7 := f67.keep q6 (by simp)
    have hLn := A6.new (n := s6.size) (Nat.le_refl _)
    have hen := h6.ge.en
    have hel := h6.ge.el
    have hnl := Sto.get_lt q6
    show OkS (seqS _ _ [some (.ref c.S), some (.ref c.P), some (.int (2 - r)), some Kd.num.d, some (.int more), a5, some (.int head), some (.int body), some (.int out), some (.ref nm), some (.int left), some (.int asked), some (.ref s6.size), a13, a14, a15] s7) _
    -- the body begun
    refine seq_expr.mpr (ok_call.mpr ⟨[.ref c.S, .int body, .tup []], s7, rfl, rfl, begin_ok (k := k + 5) (ks := []) A7 h7.ge (Lim.go (hlim.mono (by show n + 20 + ((0 : Nat) : Int) ≤ _; omega)) h7) (.inl rfl) fun s8 nm8 R8 E8 Pa8 A8 q8 r0 r1 r2 r3 r4 r5 r6 f8 => ?_⟩)
    have h8 := (h7.begin' (by simp) A8 f8 r1 r2).mono (n' := n + 20) (by show n + 20 + ((0 : Nat) : Int) ≤ _; omega) (Int.le_refl _)
    generalize hg8 : g6.begin body [] R8 E8 Pa8 = g8 at A8 h8
    have e8 : g8.now = body ∧ g8.B = g5.B ∧ g8.R = R8 ∧ g8.E = E8 ∧ g8.nx = g5.nx ∧ g8.bl.length = g1.bl.length := by
      rw [← hg8]
      refine ⟨rfl, e6.1, rfl, rfl, ?_, e6.2.2.2.2⟩
      show g6.nx + ((0 : Nat) : Int) = _
      rw [e6.2.1]; omega
    have q88 := f8.keep q7 (by simpa using nA5.1)
    have L8 := f8.keep L7 (by simpa using hLn.1)
    -- and filled
    refine seq_expr.mpr (ok_call.mpr ⟨[.ref c.S, .ref c.P, .int (3 - r)], s8, ?_, rfl, hB hF A8 h8.bk (Lim.go (hlim.mono (by omega)) h8) ?_ fun s9 g9 h9 => ?_⟩)
    · have : (2 - (r : Int) + 1) = 3 - r := by omega
      show some ([D.ref c.S, .ref c.P, .int (2 - (r : Int) + 1)], s8) = _
      rw [this]
    · have := h8.bl
      omega
    have h10 := h8.sub h9
    rw [e8.1, er.2] at h10
    have s7s : s6.size < s7.size := by rw [← hs7, Sto.size_push]; omega
    have aw : ∀ (n : Nat), n < s7.size → n ≠ c.S → n ≠ c.P → n ≠ g5.B → n ∉ [c.S, c.P, g8.B, g8.R, g8.E] := fun n hn a b d => by
      simp only [List.mem_cons, List.not_mem_nil, or_false, not_or]
      rw [e8.2.1, e8.2.2.1, e8.2.2.2.1]
      exact ⟨a, b, d, by omega, by omega⟩
    have aw9 : ∀ (n : Nat), n < s7.size → n ≠ c.S → n ≠ c.P → n ≠ g5.B → Away c g9 n := fun n hn a b d => by
      have l78 := f8.le
      refine ⟨a, b, by rw [h9.B, e8.2.1]; exact d, ?_, ?_⟩
      · rcases h9.R with q | q
        · rw [q, e8.2.2.1]; omega
        · omega
      · rcases h9.E with q | q
        · rw [q, e8.2.2.2.1]; omega
        · omega
    have hLB : s6.size ≠ g5.B := by rw [← e6.1]; exact hLn.2.1
    have q9 := h9.fm.keep q88 (aw nm (by omega) nA5.1 nA5.2.1 nA5.2.2.1)
    have L9 := h9.fm.keep L8 (aw s6.size s7s hLn.1 hLn.2.2.2.2.2.2.1 hLB)
    have x9 := h9.nx
    have b9 := h9.bl
    refine loopC_ok (k := k) (r := (r : Int)) (nm := nm) (L := s6.size) (is := is) (en := g6.en) (left := left) (head := head) (out := out) (more := more) hF (h10.mono (n' := n + cbN r + 20) (by omega) (Int.le_refl _)) (hlim.mono (by omega)) hm q9 (aw9 nm (by omega) nA5.1 nA5.2.1 nA5.2.2.1) (fun x hx => by have := his x hx; omega) hil (by omega) (by omega) L9 (aw9 s6.size s7s hLn.1 hLn.2.2.2.2.2.2.1 hLB)
      (fun e he => by have := hen e he; omega) (by omega) (List.erase_cons_head ..) fun e s g' hgo => hk e s g' (hgo.mono (by omega) (Int.le_refl _))
  refine seq_if.mpr ?_
  simp only [List.map_cons, List.map_nil, List.length_cons, List.length_nil, List.cons_append, List.nil_append, List.replicate, List.set_cons_zero, List.set_cons_succ, ok_op, ok_un, ok_c, ok_nil, ok_cons, ok_tup, ok_lst, ok_var0, ok_varS, ok_call, ok_tst, ok_and, ok_or, ok_not, ok_meth, ok_bind, ok_some, ok_ite, ok_mapv, add_ii, add_tt, add_rr, sub_ii, mul_ii, mul_ti, mul_ri, mod_ii, fdiv_ii, pow_ii, lt_ii, get_ti, get_ri, get_rs, len_t, len_r, abs_i, int_b, list_t, list_r, tuple_t, tuple_r, dict_r, is_n, in_t, in_r, addI_ii, subI_ii, min_ii, append_r, key_i, key_s, eq_int, D.bl.injEq, exists_eq_left, exists_eq_left', exists_eq_right, exists_eq_right', exists_eq', Option.some.injEq, decide_eq_true_eq, decide_eq_false_iff_not, Bool.false_eq_true, if_false, if_true, reduceCtorEq, false_implies, true_implies, true_and, and_true, forall_const, imp_self, Bool.not_true, Bool.not_false, Bool.not_eq_true', Bool.not_eq_false', not_true_eq_false, not_false_eq_true, not_true_eq_false, not_false_eq_true, at_lit0, at_lit1, at_lit2, at_lit3, at_lit4, at_lit5, List.length_replicate]
  refine takeA A4 (by decide) (by decide) fun s5 i i0 i1 A5 f5 z5 => ?_
  have h5 := h4.pot A5 f5
  have q5 := f5.keep q4 (by simpa using nA4.2.1)
  simp only [List.map_cons, List.map_nil, List.length_cons, List.length_nil, List.cons_append, List.nil_append, List.replicate, List.set_cons_zero, List.set_cons_succ, ok_op, ok_un, ok_c, ok_nil, ok_cons, ok_tup, ok_lst, ok_var0, ok_varS, ok_call, ok_tst, ok_and, ok_or, ok_not, ok_meth, ok_bind, ok_some, ok_ite, ok_mapv, add_ii, add_tt, add_rr, sub_ii, mul_ii, mul_ti, mul_ri, mod_ii, fdiv_ii, pow_ii, lt_ii, get_ti, get_ri, get_rs, len_t, len_r, abs_i, int_b, list_t, list_r, tuple_t, tuple_r, dict_r, is_n, in_t, in_r, addI_ii, subI_ii, min_ii, append_r, key_i, key_s, eq_int, D.bl.injEq, exists_eq_left, exists_eq_left', exists_eq_right, exists_eq_right', exists_eq', Option.some.injEq, decide_eq_true_eq, decide_eq_false_iff_not, Bool.false_eq_true, if_false, if_true, reduceCtorEq, false_implies, true_implies, true_and, and_true, forall_const, imp_self, Bool.not_true, Bool.not_false, Bool.not_eq_true', Bool.not_eq_false', not_true_eq_false, not_false_eq_true, not_true_eq_false, not_false_eq_true, at_lit0, at_lit1, at_lit2, at_lit3, at_lit4, at_lit5, List.length_replicate]
  refine ⟨fun _ => ?_, fun _ => ?_⟩
  · refine seq_set.mpr (ok_call.mpr ⟨[.ref c.S, .ref c.P, .tup [.str "truth"]], s5, rfl, rfl, name_ok (k := k + 2) (a := .k .tru) hF trivial A5 h5.ge (Lim.go (hlim.mono (by omega)) h5) fun s6 g6 x A6 gr6 v0 v1 f6 => ?_⟩)
    exact go s6 g6 x ((h5.gr gr6 A6 f6).mono (by omega) (Int.le_refl _)) (gr6.now.trans n4) (gr6.bl.trans b4) gr6.nx.1 v0 v1 (f6.keep q5 nA4.nm) (nA4.gr gr6)
  · exact seq_next.mpr (go s5 g4 g3.nx (h5.mono (by omega) (Int.le_refl _)) n4 b4 (Int.le_refl _) (by omega) x4 q5 nA4)
end
end Mw
/-! A loop, whole; a body. -/
namespace Mw
open PySem PySem.Spec PyProof.Rows L2 Dn
def LoopOk (k r : Nat) : Prop := ∀ {c : Fx} {g : Gs} {st : Sto} {G : D → Sto → Prop}, FxOk c → At c g st → Bk c g → Lim (2 * cbN r + 1000) g → (g.bl.length : Int) + 3 + 2 * bbN r ≤ 8000000 →
  (∀ s g', Go c (2 * cbN r + 1000) (3 + 2 * bbN r) [g'.now] true g g' st s → G .non s) → Ok (Hd.runs k 20 [.ref c.S, .ref c.P, .int (2 - r)] st) G
section
variable {c : Fx} {n m : Int} {pd : List Int} {cu : Bool} {g g1 g2 : Gs} {st s1 s2 : Sto} {k : Nat}
theorem sz10 {more w : Int} (h : 1 ≤ more ∧ more ≤ 9) : more.toNat + [w].length ≤ SZ := by
  have hs : SZ = 16777216 := by decide
  show more.toNat + 1 ≤ SZ
  omega
theorem loop_ok {r : Nat} (hB : BodyOk (k + 6) r) : LoopOk (k + 7) r := by
  intro c g st G hF hA hK hlim hbl hG
  show Ok (bodyD _ (Hd.b__law_loop (Hd.runs (k + 6))) _ st) G
  refine ok_body ?_
  unfold Hd.b__law_loop
  have hc0 := cbN_pos r
  have hb0 := bbN_pos r
  have hs : SZ = 16777216 := by decide
  have z1 : 0 + 1 ≤ SZ := by decide
  have z6 : 0 + 1 + 1 + 1 + 1 + 1 + 1 ≤ SZ := by decide
  have z3 : 0 + 1 + 1 + 1 ≤ SZ := by decide
  have h0 := Go.start hA hK
  refine seq_set.mpr ⟨Kd.num.d, st, rfl, ?_⟩
  -- how many
  refine seq_set.mpr ?_
  simp only [List.map_cons, List.map_nil, List.length_cons, List.length_nil, List.cons_append, List.nil_append, List.replicate, List.set_cons_zero, List.set_cons_succ, ok_op, ok_un, ok_c, ok_nil, ok_cons, ok_tup, ok_lst, ok_var0, ok_varS, ok_call, ok_tst, ok_and, ok_or, ok_not, ok_meth, ok_bind, ok_some, ok_ite, ok_mapv, add_ii, add_tt, add_rr, sub_ii, mul_ii, mul_ti, mul_ri, mod_ii, fdiv_ii, pow_ii, lt_ii, get_ti, get_ri, get_rs, len_t, len_r, abs_i, int_b, list_t, list_r, tuple_t, tuple_r, dict_r, is_n, in_t, in_r, addI_ii, subI_ii, min_ii, append_r, key_i, key_s, eq_int, D.bl.injEq, exists_eq_left, exists_eq_left', exists_eq_right, exists_eq_right', exists_eq', Option.some.injEq, decide_eq_true_eq, decide_eq_false_iff_not, Bool.false_eq_true, if_false, if_true, reduceCtorEq, false_implies, true_implies, true_and, and_true, forall_const, imp_self, Bool.not_true, Bool.not_false, Bool.not_eq_true', Bool.not_eq_false', not_true_eq_false, not_false_eq_true, not_true_eq_false, not_false_eq_true, at_lit0, at_lit1, at_lit2, at_lit3, at_lit4, at_lit5, List.length_replicate, z6]
  generalize hs1 : st.push (.lst [.int 0, .int 1, .int 2, .int 3, .int 5, .int 8]) = s1
  have f01 : Fm [] st s1 := by rw [← hs1]; exact Fm.push
  have A1 := hA.fm0 f01
  have h1 := h0.new A1 f01
  have e1 : s1.get st.size = some (.lst ([0, 1, 2, 3, 5, 8].map D.int)) := by rw [← hs1]; exact Sto.get_push_new
  have nw := hA.new (n := st.size) (Nat.le_refl _)
  refine takeA A1 (by decide) (by decide) fun s2 i i0 i1 A2 f2 z2 => ?_
  have h2 := h1.pot A2 f2
  have e2 := f2.keep e1 (by simpa using nw.2.2.2.2.2.2.1)
  obtain ⟨x, hx, hx2⟩ := atI_ge (xs := [0, 1, 2, 3, 5, 8].map D.int) (i := i) i0 (by show i < 6; exact i1)
  rw [List.getElem?_map] at hx2
  obtain ⟨v, hv, rfl⟩ := mapS hx2
  have hv2 : 0 ≤ v ∧ v ≤ 8 := by
    have := List.mem_of_getElem? hv
    simp only [List.mem_cons, List.not_mem_nil, or_false] at this
    omega
  rw [get_ri, e2]
  simp only [ok_mapv]
  refine ⟨_, hx, ?_⟩
  simp only [List.map_cons, List.map_nil, List.length_cons, List.length_nil, List.cons_append, List.nil_append, List.replicate, List.set_cons_zero, List.set_cons_succ, ok_op, ok_un, ok_c, ok_nil, ok_cons, ok_tup, ok_lst, ok_var0, ok_varS, ok_call, ok_tst, ok_and, ok_or, ok_not, ok_meth, ok_bind, ok_some, ok_ite, ok_mapv, add_ii, add_tt, add_rr, sub_ii, mul_ii, mul_ti, mul_ri, mod_ii, fdiv_ii, pow_ii, lt_ii, get_ti, get_ri, get_rs, len_t, len_r, abs_i, int_b, list_t, list_r, tuple_t, tuple_r, dict_r, is_n, in_t, in_r, addI_ii, subI_ii, min_ii, append_r, key_i, key_s, eq_int, D.bl.injEq, exists_eq_left, exists_eq_left', exists_eq_right, exists_eq_right', exists_eq', Option.some.injEq, decide_eq_true_eq, decide_eq_false_iff_not, Bool.false_eq_true, if_false, if_true, reduceCtorEq, false_implies, true_implies, true_and, and_true, forall_const, imp_self, Bool.not_true, Bool.not_false, Bool.not_eq_true', Bool.not_eq_false', not_true_eq_false, not_false_eq_true, not_true_eq_false, not_false_eq_true, at_lit0, at_lit1, at_lit2, at_lit3, at_lit4, at_lit5, List.length_replicate]
  have hm : 1 ≤ 1 + v ∧ 1 + v ≤ 9 := by omega
  generalize hmore : 1 + v = more at hm
  show OkS (seqS _ _ [some (.ref c.S), some (.ref c.P), some (.int (2 - r)), some Kd.num.d, some (.int more), none, none, none, none, none, none, none, none, none, none, none] s2) _
  -- what is handed to the head
  refine seq_set.mpr (ok_op.mpr ?_)
  refine names_lc (k := k + 6) (m := 10) (bs := List.replicate more.toNat (.k .num)) hF A2 h2.ge (by decide) (Lim.go (hlim.mono (by rw [List.length_replicate]; omega)) h2) (by rw [List.length_replicate]; omega) (fun b hb2 => ?_) ⟨.rng 0 more.toNat, (List.range more.toNat).map fun i => .int (0 + (i : Nat)), ?_, by simp, pure_rng, fun i y b hy hb2 s => ⟨_, rfl, rfl, fun Q q => ?_⟩⟩ fun s3 g3 fs A3 hg3 hl3 hx3 hq3 hf3 => ?_
  · rw [List.eq_of_mem_replicate hb2]
    exact ⟨trivial, name_ok (k := k + 2)⟩
  · unfold rng1I
    show (some (D.int more, s2)).bind _ = _
    rw [Option.bind_some]
    simp only
    rw [if_pos (by omega)]
  · have eb := List.eq_of_mem_replicate (List.mem_of_getElem? hb2)
    subst eb
    simp only [List.map_cons, List.map_nil, List.length_cons, List.length_nil, List.cons_append, List.nil_append, List.replicate, List.set_cons_zero, List.set_cons_succ, ok_op, ok_un, ok_c, ok_nil, ok_cons, ok_tup, ok_lst, ok_var0, ok_varS, ok_call, ok_tst, ok_and, ok_or, ok_not, ok_meth, ok_bind, ok_some, ok_ite, ok_mapv, add_ii, add_tt, add_rr, sub_ii, mul_ii, mul_ti, mul_ri, mod_ii, fdiv_ii, pow_ii, lt_ii, get_ti, get_ri, get_rs, len_t, len_r, abs_i, int_b, list_t, list_r, tuple_t, tuple_r, dict_r, is_n, in_t, in_r, addI_ii, subI_ii, min_ii, append_r, key_i, key_s, eq_int, D.bl.injEq, exists_eq_left, exists_eq_left', exists_eq_right, exists_eq_right', exists_eq', Option.some.injEq, decide_eq_true_eq, decide_eq_false_iff_not, Bool.false_eq_true, if_false, if_true, reduceCtorEq, false_implies, true_implies, true_and, and_true, forall_const, imp_self, Bool.not_true, Bool.not_false, Bool.not_eq_true', Bool.not_eq_false', not_true_eq_false, not_false_eq_true, not_true_eq_false, not_false_eq_true, at_lit0, at_lit1, at_lit2, at_lit3, at_lit4, at_lit5, List.length_replicate, wipeE]
    exact q
  rw [List.length_replicate] at hg3 hl3
  have h3 := (h2.gr hg3 A3 hf3).mono (n' := 90) (m' := 0) (by omega) (Int.le_refl _)
  refine ok_lst.mpr (ok_cons.mpr (ok_call.mpr ⟨[.ref c.S, .ref c.P, .str "few"], s3, rfl, rfl, name_ok (k := k + 2) (a := .few) hF trivial A3 h3.ge (Lim.go (hlim.mono (by omega)) h3) fun s4 g4 w A4 gr4 w0 w1 f4 => ok_nil.mpr ⟨z1, ?_⟩⟩))
  have h4 := h3.gr gr4 A4 f4
  have nw2 := A2.new (n := s2.size) (Nat.le_refl _)
  have q4 : s4.get s2.size = some (.lst (fs.map .int)) := f4.keep hq3 (by
    simp only [List.mem_cons, List.not_mem_nil, or_false, not_or]
    rw [hg3.R, hg3.E]
    exact ⟨nw2.1, nw2.2.2.2.2.2.2.1, nw2.2.2.1, nw2.2.2.2.1⟩)
  generalize hs5 : s4.push (.lst [.int w]) = s5
  have e5 : s5.get s2.size = some (.lst (fs.map .int)) := by rw [← hs5, Sto.get_push_lt (Sto.get_lt q4)]; exact q4
  have e5' : s5.get s4.size = some (.lst [.int w]) := by rw [← hs5]; exact Sto.get_push_new
  rw [add_rr, e5, e5']
  simp only
  rw [if_pos (by rw [List.length_map]; show fs.length + 1 ≤ SZ; omega)]
  refine ok_some.mpr ?_
  have eap : fs.map D.int ++ [.int w] = (fs ++ [w]).map .int := by rw [List.map_append]; rfl
  rw [eap]
  generalize hs6 : s5.push (.lst ((fs ++ [w]).map .int)) = s6
  have f46 : Fm [] s4 s6 := by
    rw [← hs6, ← hs5]
    exact Fm.push.trans (Fm.push (W := [])) fun i q => by cases q
  have A6 := A4.fm0 f46
  have h6 := h4.new A6 f46
  have e6 : s6.get s5.size = some (.lst ((fs ++ [w]).map .int)) := by rw [← hs6]; exact Sto.get_push_new
  have hF6 := A4.new (n := s5.size) (by rw [← hs5, Sto.size_push]; omega)
  have x4 := gr4.nx
  have fin : ∀ a ∈ fs ++ [w], 0 ≤ a ∧ a < g4.nx := fun a ha => by
    rcases List.mem_append.mp ha with ha | ha
    · have := hx3 a ha; omega
    · simp only [List.mem_cons, List.not_mem_nil, or_false] at ha
      subst ha
      exact ⟨w0, w1⟩
  have b4 : g4.bl = g.bl := gr4.bl.trans hg3.bl
  have n4 : g4.now = g.now := gr4.now.trans hg3.now
  show OkS (seqS _ _ [some (.ref c.S), some (.ref c.P), some (.int (2 - r)), some Kd.num.d, some (.int more), some (.ref s5.size), none, none, none, none, none, none, none, none, none, none] s6) _
  -- three blocks
  refine seq_par3 (open3 (k := k + 5) h6 (by rw [b4]; omega) fun s7 g7 h7 n7 l7 x7 y7 en7 B7 f7 z7 => ⟨_, _, _, rfl, ?_⟩)
  generalize hy : (g4.bl.length : Int) = y at h7
  show OkS (seqS _ _ [some (.ref c.S), some (.ref c.P), some (.int (2 - r)), some Kd.num.d, some (.int more), some (.ref s5.size), some (.int y), some (.int (y + 1)), some (.int (y + 2)), none, none, none, none, none, none, none] s7) _
  obtain ⟨p0, p1, _⟩ := h7.pdo _ (h7.cun rfl)
  have pl := (List.getElem?_eq_some_iff.mp p1).1
  have e7 := f7.keep e6 (by simpa using hF6.2.1)
  have er := erase3 h7.pn
  -- the block ends
  refine seq_expr.mpr ?_
  simp only [List.map_cons, List.map_nil, List.length_cons, List.length_nil, List.cons_append, List.nil_append, List.replicate, List.set_cons_zero, List.set_cons_succ, ok_op, ok_un, ok_c, ok_nil, ok_cons, ok_tup, ok_lst, ok_var0, ok_varS, ok_call, ok_tst, ok_and, ok_or, ok_not, ok_meth, ok_bind, ok_some, ok_ite, ok_mapv, add_ii, add_tt, add_rr, sub_ii, mul_ii, mul_ti, mul_ri, mod_ii, fdiv_ii, pow_ii, lt_ii, get_ti, get_ri, get_rs, len_t, len_r, abs_i, int_b, list_t, list_r, tuple_t, tuple_r, dict_r, is_n, in_t, in_r, addI_ii, subI_ii, min_ii, append_r, key_i, key_s, eq_int, D.bl.injEq, exists_eq_left, exists_eq_left', exists_eq_right, exists_eq_right', exists_eq', Option.some.injEq, decide_eq_true_eq, decide_eq_false_iff_not, Bool.false_eq_true, if_false, if_true, reduceCtorEq, false_implies, true_implies, true_and, and_true, forall_const, imp_self, Bool.not_true, Bool.not_false, Bool.not_eq_true', Bool.not_eq_false', not_true_eq_false, not_false_eq_true, not_true_eq_false, not_false_eq_true, at_lit0, at_lit1, at_lit2, at_lit3, at_lit4, at_lit5, List.length_replicate, seq_get e7, z3]
  refine end_ok (k := k + 5) h7.A (.jump y (fs ++ [w])) p0 (by omega) fun s8 A8 f8 z8 => ?_
  have hfsz : (fs ++ [w]).length ≤ SZ := by rw [List.length_append, hl3]; exact sz10 hm
  have hE8 : EOk g7.nx g7.bl.length (.jump y (fs ++ [w])) := ⟨by omega, fun a ha => by rw [x7]; exact fin a ha, hfsz⟩
  have h8 := h7.end' hE8 A8 f8
  generalize hg8 : ({ g7 with bl := g7.bl.set g7.now.toNat (some ⟨g7.pr, g7.rs, .jump y (fs ++ [w])⟩) } : Gs) = g8 at A8 h8
  rw [n7.trans n4, er.1] at h8
  have l8 : g8.bl.length = g4.bl.length + 3 := by rw [← hg8]; simp [l7]
  have e8 : g8.nx = g4.nx ∧ g8.B = g7.B := by rw [← hg8]; exact ⟨x7, rfl⟩
  -- the head begun
  refine seq_set.mpr ?_
  simp only [List.map_cons, List.map_nil, List.length_cons, List.length_nil, List.cons_append, List.nil_append, List.replicate, List.set_cons_zero, List.set_cons_succ, ok_op, ok_un, ok_c, ok_nil, ok_cons, ok_tup, ok_lst, ok_var0, ok_varS, ok_call, ok_tst, ok_and, ok_or, ok_not, ok_meth, ok_bind, ok_some, ok_ite, ok_mapv, add_ii, add_tt, add_rr, sub_ii, mul_ii, mul_ti, mul_ri, mod_ii, fdiv_ii, pow_ii, lt_ii, get_ti, get_ri, get_rs, len_t, len_r, abs_i, int_b, list_t, list_r, tuple_t, tuple_r, dict_r, is_n, in_t, in_r, addI_ii, subI_ii, min_ii, append_r, key_i, key_s, eq_int, D.bl.injEq, exists_eq_left, exists_eq_left', exists_eq_right, exists_eq_right', exists_eq', Option.some.injEq, decide_eq_true_eq, decide_eq_false_iff_not, Bool.false_eq_true, if_false, if_true, reduceCtorEq, false_implies, true_implies, true_and, and_true, forall_const, imp_self, Bool.not_true, Bool.not_false, Bool.not_eq_true', Bool.not_eq_false', not_true_eq_false, not_false_eq_true, not_true_eq_false, not_false_eq_true, at_lit0, at_lit1, at_lit2, at_lit3, at_lit4, at_lit5, List.length_replicate, z1]
  generalize hs9 : s8.push (.lst [Kd.num.d]) = s9
  have e9 : s9.get s8.size = some (.lst [Kd.num.d]) := by rw [← hs9]; exact Sto.get_push_new
  rw [e9]
  simp only [ok_ite, ok_some]
  refine ⟨⟨by omega, by omega, ?_⟩, ?_⟩
  · show 1 * (more + 1).toNat ≤ SZ
    omega
  have rep : (List.replicate (more + 1).toNat [Kd.num.d]).flatten = (List.replicate (more + 1).toNat Kd.num).map Kd.d := by
    rw [List.flatten_replicate_singleton, List.map_replicate]
  rw [rep]
  generalize hs10 : s9.push (.lst ((List.replicate (more + 1).toNat Kd.num).map Kd.d)) = s10
  have f810 : Fm [] s8 s10 := by
    rw [← hs10, ← hs9]
    exact Fm.push.trans (Fm.push (W := [])) fun i q => by cases q
  have A10 := A8.fm0 f810
  have h10 := h8.new A10 f810
  have e10 : s10.get s9.size = some (.lst ((List.replicate (more + 1).toNat Kd.num).map Kd.d)) := by rw [← hs10]; exact Sto.get_push_new
  have klen : ((List.replicate (more + 1).toNat Kd.num).length : Int) = more + 1 := by rw [List.length_replicate]; omega
  refine begin_ok (k := k + 5) (ks := List.replicate (more + 1).toNat Kd.num) A10 h10.ge (Lim.go (hlim.mono (by rw [klen]; omega)) h10) (.inr ⟨_, rfl, e10⟩) fun s11 nm R E Pa A11 q11 r0 r1 r2 r3 r4 r5 r6 f11 => ?_
  have h11 := (h10.begin' (p := y) (by simp) A11 f11 r1 r2).mono (n' := 110) (m' := 3) (by rw [klen]; omega) (by omega)
  generalize hg11 : g8.begin y (List.replicate (more + 1).toNat Kd.num) R E Pa = g11 at A11 h11
  have e11 : g11.now = y ∧ g11.B = g8.B ∧ g11.R = R ∧ g11.E = E ∧ g11.nx = g8.nx + (more + 1) ∧ g11.bl = g8.bl := by
    rw [← hg11]
    refine ⟨rfl, rfl, rfl, rfl, ?_, rfl⟩
    show g8.nx + ((List.replicate (more + 1).toNat Kd.num).length : Int) = _
    rw [klen]
  rw [klen] at q11
  have hx8 := h10.ge.nx
  have ilen : (irange g8.nx (g8.nx + (more + 1))).length = (more + 1).toNat := by rw [irange_len]; congr 1; omega
  show OkS (seqS _ _ [some (.ref c.S), some (.ref c.P), some (.int (2 - r)), some Kd.num.d, some (.int more), some (.ref s5.size), some (.int y), some (.int (y + 1)), some (.int (y + 2)), some (.ref nm), none, none, none, none, none, none] s11) _
  -- what is left
  refine seq_set.mpr ?_
  simp only [List.map_cons, List.map_nil, List.length_cons, List.length_nil, List.cons_append, List.nil_append, List.replicate, List.set_cons_zero, List.set_cons_succ, ok_op, ok_un, ok_c, ok_nil, ok_cons, ok_tup, ok_lst, ok_var0, ok_varS, ok_call, ok_tst, ok_and, ok_or, ok_not, ok_meth, ok_bind, ok_some, ok_ite, ok_mapv, add_ii, add_tt, add_rr, sub_ii, mul_ii, mul_ti, mul_ri, mod_ii, fdiv_ii, pow_ii, lt_ii, get_ti, get_ri, get_rs, len_t, len_r, abs_i, int_b, list_t, list_r, tuple_t, tuple_r, dict_r, is_n, in_t, in_r, addI_ii, subI_ii, min_ii, append_r, key_i, key_s, eq_int, D.bl.injEq, exists_eq_left, exists_eq_left', exists_eq_right, exists_eq_right', exists_eq', Option.some.injEq, decide_eq_true_eq, decide_eq_false_iff_not, Bool.false_eq_true, if_false, if_true, reduceCtorEq, false_implies, true_implies, true_and, and_true, forall_const, imp_self, Bool.not_true, Bool.not_false, Bool.not_eq_true', Bool.not_eq_false', not_true_eq_false, not_false_eq_true, not_true_eq_false, not_false_eq_true, at_lit0, at_lit1, at_lit2, at_lit3, at_lit4, at_lit5, List.length_replicate, q11]
  obtain ⟨u, hu, hu2⟩ := atI_ge (xs := (irange g8.nx (g8.nx + (more + 1))).map D.int) (i := more) (by omega) (by rw [List.length_map, ilen]; omega)
  rw [List.getElem?_map] at hu2
  obtain ⟨left, hleft, rfl⟩ := mapS hu2
  have hlm := irange_mem.mp (List.mem_of_getElem? hleft)
  refine ⟨_, hu, ?_⟩
  show OkS (loopB (Hd.runs (k + 6)) [some (.ref c.S), some (.ref c.P), some (.int (2 - r)), some Kd.num.d, some (.int more), some (.ref s5.size), some (.int y), some (.int (y + 1)), some (.int (y + 2)), some (.ref nm), some (.int left), none, none, none, none, none] s11) _
  have nwn := A10.new (n := nm) r0
  refine loopB_ok (k := k) (r := r) (is := irange g8.nx (g8.nx + (more + 1))) hB hF h11 (hlim.mono (by omega)) (by omega) hm e11.1 q11 ⟨nwn.1, nwn.2.2.2.2.2.2.1, by rw [e11.2.1]; exact nwn.2.1, by rw [e11.2.2.1]; exact r4, by rw [e11.2.2.2.1]; exact r5⟩ (fun x hx => by have := irange_mem.mp hx; rw [e11.2.2.2.2.1]; omega) (by rw [ilen]; omega) (by rw [e11.2.2.2.2.1]; omega) fun e s g' hgo => ?_
  have hnow : g'.now = y + 2 := by simpa using hgo.cun rfl
  refine hG s g' ?_
  rw [hnow]
  exact hgo.mono (by omega) (by omega)
end
end Mw
/-! A body. -/
namespace Mw
open PySem PySem.Spec PyProof.Rows L2 Dn
def tcN : Nat → Int
  | 0 => 500
  | r + 1 => 2 * cbN r + 1000
def tbN : Nat → Int
  | 0 => 0
  | r + 1 => 3 + 2 * bbN r
theorem cb_tc (r : Nat) : cbN r = 3 * tcN r := by cases r <;> rfl
theorem bb_tb (r : Nat) : bbN r = 3 * tbN r := by cases r <;> rfl
theorem tc_pos (r : Nat) : 500 ≤ tcN r := by
  cases r with
  | zero => exact Int.le_refl _
  | succ r => have := cbN_pos r; show 500 ≤ 2 * cbN r + 1000; omega
theorem tb_pos (r : Nat) : 0 ≤ tbN r := by
  cases r with
  | zero => exact Int.le_refl _
  | succ r => have := bbN_pos r; show 0 ≤ 3 + 2 * bbN r; omega
section
variable {c : Fx} {n m : Int} {pd : List Int} {cu : Bool} {g g1 g2 : Gs} {st s1 s2 : Sto} {k : Nat}
theorem Go.bu {b : Int} (h : Go c n m pd cu g g1 st s1) : Go c n m pd cu g { g1 with bu := b } st (s1.set c.S (.dic (gD c { g1 with bu := b }))) :=
  ⟨h.A.setS { g1 with bu := b } ⟨rfl, rfl, rfl, rfl, rfl, rfl, rfl, rfl⟩, ⟨h.ge.en, h.ge.nx, h.ge.ln, h.ge.rl, h.ge.el, h.ge.bw⟩, h.nm, h.ra, h.bo, h.pdo, h.pn, h.cun, h.fill, h.keep, h.nx, h.ln, h.bl, h.fm.trans (Fm.set (W := [c.S]) (.inl (by simp))) (fun i q => h.inW i (by
    simp only [List.mem_cons, List.not_mem_nil, or_false] at q ⊢
    simp [q])), h.R, h.E, h.B⟩
theorem seq_dsub0 {n : Nat} {kvs : List (Key × D)} {k : Str} {i v : Int} {e : Dn.Env} {st : Sto} {b : SM} {R : Res → Prop} (h : st.get n = some (.dic kvs)) (hk : kGet kvs (.inr k) = some (.int i)) (hz : kvs.length < SZ) (q : OkS (b (some (.ref n) :: e) (st.set n (.dic (kPut kvs (.inr k) (.int (i - v)))))) R) :
    OkS (seqS (daugS subI (varF 0) (cF (.str k)) (cF (.int v))) b (some (.ref n) :: e) st) R :=
  oks_seq.mpr (oks_daug (n := n) (kvs := kvs) (k := .inr k) (x := .int i) (s1 := st) (s2 := st) (kd := .str k) rfl rfl h rfl hk (ok_c.mpr (ok_some.mpr ⟨kvs, h, hz, q⟩)))
theorem body_ok {r : Nat} (hc : ∀ r', r = r' + 1 → ChoiceOk (k + 5) r' ∧ LoopOk (k + 5) r') : BodyOk (k + 6) r := by
  intro c g st G hF hA hK hlim hbl hG
  show Ok (bodyD _ (Hd.b__law_body (Hd.runs (k + 5))) _ st) G
  refine ok_body ?_
  unfold Hd.b__law_body
  have tc0 := tc_pos r
  have tb0 := tb_pos r
  rw [cb_tc] at hlim
  rw [bb_tb] at hbl
  have h0 := Go.start hA hK
  show OkS (forS _ _ _ [some (.ref c.S), some (.ref c.P), some (.int (3 - r)), none, none] st) _
  refine oks_for ?_
  have htk : Ok (rng1I (opF addD (cF (.int 1)) (callF 2 (Hd.runs (k + 5) 11) (consF (varF 1) (consF (cF (.int 3)) nilF)))) [some (.ref c.S), some (.ref c.P), some (.int (3 - r)), none, none] st) fun src s2 => ∃ m : Nat, m ≤ 3 ∧ src = .rng 0 m ∧ At c g s2 ∧ Fm [c.P] st s2 := by
    refine oki_rng1 ?_
    simp only [List.map_cons, List.map_nil, List.length_cons, List.length_nil, List.cons_append, List.nil_append, List.replicate, List.set_cons_zero, List.set_cons_succ, ok_op, ok_un, ok_c, ok_nil, ok_cons, ok_tup, ok_lst, ok_var0, ok_varS, ok_call, ok_tst, ok_and, ok_or, ok_not, ok_meth, ok_bind, ok_some, ok_ite, ok_mapv, add_ii, add_tt, add_rr, sub_ii, mul_ii, mul_ti, mul_ri, mod_ii, fdiv_ii, pow_ii, lt_ii, get_ti, get_ri, get_rs, len_t, len_r, abs_i, int_b, list_t, list_r, tuple_t, tuple_r, dict_r, is_n, in_t, in_r, addI_ii, subI_ii, min_ii, append_r, key_i, key_s, eq_int, D.bl.injEq, exists_eq_left, exists_eq_left', exists_eq_right, exists_eq_right', exists_eq', Option.some.injEq, decide_eq_true_eq, decide_eq_false_iff_not, Bool.false_eq_true, if_false, if_true, reduceCtorEq, false_implies, true_implies, true_and, and_true, forall_const, imp_self, Bool.not_true, Bool.not_false, Bool.not_eq_true', Bool.not_eq_false', not_true_eq_false, not_false_eq_true, not_true_eq_false, not_false_eq_true, at_lit0, at_lit1, at_lit2, at_lit3, at_lit4, at_lit5, List.length_replicate]
    refine takeA hA (by decide) (by decide) fun s i i0 i1 hA' f z => ?_
    simp only [List.map_cons, List.map_nil, List.length_cons, List.length_nil, List.cons_append, List.nil_append, List.replicate, List.set_cons_zero, List.set_cons_succ, ok_op, ok_un, ok_c, ok_nil, ok_cons, ok_tup, ok_lst, ok_var0, ok_varS, ok_call, ok_tst, ok_and, ok_or, ok_not, ok_meth, ok_bind, ok_some, ok_ite, ok_mapv, add_ii, add_tt, add_rr, sub_ii, mul_ii, mul_ti, mul_ri, mod_ii, fdiv_ii, pow_ii, lt_ii, get_ti, get_ri, get_rs, len_t, len_r, abs_i, int_b, list_t, list_r, tuple_t, tuple_r, dict_r, is_n, in_t, in_r, addI_ii, subI_ii, min_ii, append_r, key_i, key_s, eq_int, D.bl.injEq, exists_eq_left, exists_eq_left', exists_eq_right, exists_eq_right', exists_eq', Option.some.injEq, decide_eq_true_eq, decide_eq_false_iff_not, Bool.false_eq_true, if_false, if_true, reduceCtorEq, false_implies, true_implies, true_and, and_true, forall_const, imp_self, Bool.not_true, Bool.not_false, Bool.not_eq_true', Bool.not_eq_false', not_true_eq_false, not_false_eq_true, not_true_eq_false, not_false_eq_true, at_lit0, at_lit1, at_lit2, at_lit3, at_lit4, at_lit5, List.length_replicate]
    exact ⟨_, rfl, by omega, by omega, _, by omega, rfl, hA', f⟩
  refine htk.imp fun src s2 ⟨m, hm, e, A2, f2⟩ => ?_
  subst e
  have h2 := h0.pot A2 f2
  refine ⟨(List.range m).map fun i => .int (0 + (i : Nat)), fun i e s => ∃ g' a3 a4, e = [some (.ref c.S), some (.ref c.P), some (.int (3 - r)), a3, a4] ∧ Go c (tcN r * i) (tbN r * i) [g'.now] true g g' st s, pure_rng.2 s2, ⟨g, _, _, rfl, by simpa using h2⟩, ?_, ?_⟩
  · rintro i e s d hd ⟨g1, a3, a4, rfl, h⟩
    have hi : i < m := by
      have := (List.getElem?_eq_some_iff.mp hd).1
      simpa using this
    have t1 : tcN r * i + tcN r = tcN r * ((i + 1 : Nat) : Int) := by
      have : ((i + 1 : Nat) : Int) = (i : Int) + 1 := by omega
      rw [this, Int.mul_add, Int.mul_one]
    have t2 : tbN r * i + tbN r = tbN r * ((i + 1 : Nat) : Int) := by
      have : ((i + 1 : Nat) : Int) = (i : Int) + 1 := by omega
      rw [this, Int.mul_add, Int.mul_one]
    have i3 : ((i + 1 : Nat) : Int) ≤ 3 := by omega
    have t3 : tcN r * ((i + 1 : Nat) : Int) ≤ 3 * tcN r := by
      rw [Int.mul_comm]
      exact Int.mul_le_mul_of_nonneg_right i3 (by omega)
    have t4 : tbN r * ((i + 1 : Nat) : Int) ≤ 3 * tbN r := by
      rw [Int.mul_comm]
      exact Int.mul_le_mul_of_nonneg_right i3 tb0
    refine ⟨by rw [pure_rng.1, hd], _, s, rfl, ?_⟩
    show OkS (seqS _ _ [some (.ref c.S), some (.ref c.P), some (.int (3 - r)), some d, a4] s) _
    refine seq_set.mpr ?_
    simp only [List.map_cons, List.map_nil, List.length_cons, List.length_nil, List.cons_append, List.nil_append, List.replicate, List.set_cons_zero, List.set_cons_succ, ok_op, ok_un, ok_c, ok_nil, ok_cons, ok_tup, ok_lst, ok_var0, ok_varS, ok_call, ok_tst, ok_and, ok_or, ok_not, ok_meth, ok_bind, ok_some, ok_ite, ok_mapv, add_ii, add_tt, add_rr, sub_ii, mul_ii, mul_ti, mul_ri, mod_ii, fdiv_ii, pow_ii, lt_ii, get_ti, get_ri, get_rs, len_t, len_r, abs_i, int_b, list_t, list_r, tuple_t, tuple_r, dict_r, is_n, in_t, in_r, addI_ii, subI_ii, min_ii, append_r, key_i, key_s, eq_int, D.bl.injEq, exists_eq_left, exists_eq_left', exists_eq_right, exists_eq_right', exists_eq', Option.some.injEq, decide_eq_true_eq, decide_eq_false_iff_not, Bool.false_eq_true, if_false, if_true, reduceCtorEq, false_implies, true_implies, true_and, and_true, forall_const, imp_self, Bool.not_true, Bool.not_false, Bool.not_eq_true', Bool.not_eq_false', not_true_eq_false, not_false_eq_true, not_true_eq_false, not_false_eq_true, at_lit0, at_lit1, at_lit2, at_lit3, at_lit4, at_lit5, List.length_replicate]
    refine takeA h.A (by decide) (by decide) fun s3 w w0 w1 A3 f3 z3 => ?_
    have h3 := h.pot A3 f3
    show OkS (seqS _ _ [some (.ref c.S), some (.ref c.P), some (.int (3 - r)), some d, some (.int w)] s3) _
    refine seq_dsub0 A3.S st_budget st_len ?_
    rw [st_sbudget]
    have h4 := h3.bu (b := g1.bu - 1)
    have ed : gD c { g1 with bu := g1.bu - 1 } = stD g1.B g1.now g1.R g1.Pa g1.E g1.nx g1.ln c.C (g1.bu - 1) c.fi c.mo := rfl
    rw [ed] at h4
    generalize hs4 : s3.set c.S (.dic (stD g1.B g1.now g1.R g1.Pa g1.E g1.nx g1.ln c.C (g1.bu - 1) c.fi c.mo)) = s4 at h4 ⊢
    generalize hg4 : ({ g1 with bu := g1.bu - 1 } : Gs) = g4 at h4
    have n4 : g4.now = g1.now := by rw [← hg4]
    have S4 := h4.A.S
    have h4' : Go c (tcN r * i) (tbN r * i) [g4.now] true g g4 st s4 := by rw [n4]; exact h4
    -- a turn's end
    have fin : ∀ (s5 : Sto) (g5 : Gs), Go c (tcN r * i + tcN r) (tbN r * i + tbN r) [g5.now] true g g5 st s5 → ∃ g' a3 a4, [some (.ref c.S), some (.ref c.P), some (.int (3 - r)), some d, some (.int w)] = [some (.ref c.S), some (.ref c.P), some (.int (3 - r)), a3, a4] ∧ Go c (tcN r * ((i + 1 : Nat) : Int)) (tbN r * ((i + 1 : Nat) : Int)) [g'.now] true g g' st s5 := fun s5 g5 h5 => ⟨g5, _, _, rfl, by rw [← t1, ← t2]; exact h5⟩
    have str : Ok (Hd.runs (k + 5) 15 [.ref c.S, .ref c.P] s4) fun d' s => ∃ g' a3 a4, [some (.ref c.S), some (.ref c.P), some (.int (3 - r)), some d, some (.int w)] = [some (.ref c.S), some (.ref c.P), some (.int (3 - r)), a3, a4] ∧ Go c (tcN r * ((i + 1 : Nat) : Int)) (tbN r * ((i + 1 : Nat) : Int)) [g'.now] true g g' st s := by
      refine straight_ok (k := k) hF h4.A h4.ge (Lim.go (hlim.mono (by omega)) h4) fun s5 g5 A5 gr5 f5 => fin s5 g5 ?_
      have h5 := (h4'.gr gr5 A5 f5).mono (n' := tcN r * i + tcN r) (m' := tbN r * i + tbN r) (by omega) (by omega)
      rw [gr5.now]; exact h5
    have sub : ∀ (s5 : Sto) (g5 : Gs), Go c (tcN r) (tbN r) [g5.now] true g4 g5 s4 s5 → Go c (tcN r * i + tcN r) (tbN r * i + tbN r) [g5.now] true g g5 st s5 := fun s5 g5 h5 => by
      have := h4'.sub h5
      rw [List.erase_cons_head] at this
      exact this
    have bl4 := h4.bl
    -- which way
    have wayC : ∀ r', r = r' + 1 → Ok (Hd.runs (k + 5) 19 [.ref c.S, .ref c.P, .int (3 - r)] s4) (fun d' s => ∃ g' a3 a4, [some (.ref c.S), some (.ref c.P), some (.int (3 - r)), some d, some (.int w)] = [some (.ref c.S), some (.ref c.P), some (.int (3 - r)), a3, a4] ∧ Go c (tcN r * ((i + 1 : Nat) : Int)) (tbN r * ((i + 1 : Nat) : Int)) [g'.now] true g g' st s) ∧
        Ok (Hd.runs (k + 5) 20 [.ref c.S, .ref c.P, .int (3 - r)] s4) (fun d' s => ∃ g' a3 a4, [some (.ref c.S), some (.ref c.P), some (.int (3 - r)), some d, some (.int w)] = [some (.ref c.S), some (.ref c.P), some (.int (3 - r)), a3, a4] ∧ Go c (tcN r * ((i + 1 : Nat) : Int)) (tbN r * ((i + 1 : Nat) : Int)) [g'.now] true g g' st s) := by
      intro r' hr
      have ei : (3 - (r : Int)) = 2 - r' := by omega
      have et : tcN r = 2 * cbN r' + 1000 := by rw [hr]; rfl
      have eb : tbN r = 3 + 2 * bbN r' := by rw [hr]; rfl
      have l1 : Lim (2 * cbN r' + 1000) g4 := Lim.go (hlim.mono (by rw [← et]; omega)) h4
      have l2 : (g4.bl.length : Int) + 3 + 2 * bbN r' ≤ 8000000 := by omega
      have key : ∀ s5 g5, Go c (2 * cbN r' + 1000) (3 + 2 * bbN r') [g5.now] true g4 g5 s4 s5 → ∃ g' a3 a4, [some (.ref c.S), some (.ref c.P), some (.int (3 - r)), some d, some (.int w)] = [some (.ref c.S), some (.ref c.P), some (.int (3 - r)), a3, a4] ∧ Go c (tcN r * ((i + 1 : Nat) : Int)) (tbN r * ((i + 1 : Nat) : Int)) [g'.now] true g g' st s5 := fun s5 g5 h5 => fin s5 g5 (sub s5 g5 (by rw [et, eb]; exact h5))
      rw [ei] at key ⊢
      exact ⟨(hc r' hr).1 hF h4.A h4'.bk l1 l2 key, (hc r' hr).2 hF h4.A h4'.bk l1 l2 key⟩
    simp only [List.map_cons, List.map_nil, List.length_cons, List.length_nil, List.cons_append, List.nil_append, List.replicate, List.set_cons_zero, List.set_cons_succ, seq_set, seq_ret, seq_expr, seq_next, seq_if, seq_asg, seq_seq, seq_cnt, oks_set, oks_ret, oks_expr, oks_next, oks_cnt, oks_if', oks_asg, ok_op, ok_un, ok_c, ok_nil, ok_cons, ok_tup, ok_lst, ok_var0, ok_varS, ok_call, ok_tst, ok_and, ok_or, ok_not, ok_meth, ok_bind, ok_some, ok_ite, ok_mapv, add_ii, add_tt, add_rr, sub_ii, mul_ii, mul_ti, mul_ri, mod_ii, fdiv_ii, pow_ii, lt_ii, get_ti, get_ri, get_rs, len_t, len_r, abs_i, int_b, list_t, list_r, tuple_t, tuple_r, dict_r, is_n, in_t, in_r, addI_ii, subI_ii, min_ii, append_r, key_i, key_s, eq_int, D.bl.injEq, exists_eq_left, exists_eq_left', exists_eq_right, exists_eq_right', exists_eq', Option.some.injEq, decide_eq_true_eq, decide_eq_false_iff_not, Bool.false_eq_true, if_false, if_true, reduceCtorEq, false_implies, true_implies, true_and, and_true, forall_const, imp_self, Bool.not_true, Bool.not_false, Bool.not_eq_true', Bool.not_eq_false', not_true_eq_false, not_false_eq_true, not_true_eq_false, not_false_eq_true, at_lit0, at_lit1, at_lit2, at_lit3, at_lit4, at_lit5, List.length_replicate, S4, st_budget, ok_or]
    refine ⟨fun _ => str, fun _ => ⟨fun _ => str, fun hd2 => ?_⟩⟩
    obtain ⟨wc, wl⟩ := wayC (r - 1) (by omega)
    exact ⟨fun _ => str, fun _ => ⟨fun _ => wc, fun _ => wl⟩⟩
  · rintro e s ⟨g1, a3, a4, rfl, h⟩
    rw [List.length_map, List.length_range] at *
    refine ⟨by rw [pure_rng.1]; simp, hG s g1 (h.mono ?_ ?_)⟩
    · rw [cb_tc, Int.mul_comm]
      exact Int.mul_le_mul_of_nonneg_right (by omega) (by omega)
    · rw [bb_tb, Int.mul_comm]
      exact Int.mul_le_mul_of_nonneg_right (by omega) tb0
theorem body_all : ∀ (r k : Nat), BodyOk (k + 2 * r + 6) r
  | 0, k => body_ok (k := k) fun r' h => by cases h
  | r + 1, k => by
    have hb : BodyOk (k + 2 * r + 6) r := body_all r k
    have this : BodyOk (k + 2 * r + 2 + 6) (r + 1) := body_ok (k := k + 2 * r + 2) (r := r + 1) fun r' h => by
      cases h
      exact ⟨choice_ok (k := k + 2 * r) hb, loop_ok (k := k + 2 * r) hb⟩
    exact this
end
end Mw
/-! A function. -/
namespace Mw
open PySem PySem.Spec PyProof.Rows L2 Dn
/-- the blocks of a function, as they should be -/
structure FOk (bs : List Blk) : Prop where
  nm : ∃ nx : Int, 0 ≤ nx ∧ nx ≤ 1000000 ∧ (bs.flatMap gvB).Perm (irange 0 nx) ∧ ∀ b ∈ bs, BOk nx bs.length b
  len : bs.length ≤ 1000
  pos : 0 < bs.length
  rl : ∀ b ∈ bs, (b.rows.length : Int) ≤ 10000000
section
variable {c : Fx} {n m : Int} {pd : List Int} {cu : Bool} {g g1 g2 : Gs} {st s1 s2 : Sto} {k : Nat}
theorem all_some : ∀ {bl : List (Option Blk)}, (∀ i : Nat, i < bl.length → ∃ b, bl[i]? = some (some b)) → ∃ bs : List Blk, bl = bs.map some
  | [], _ => ⟨[], rfl⟩
  | x :: bl, h => by
    obtain ⟨b, hb⟩ := h 0 (by simp)
    simp only [List.getElem?_cons_zero, Option.some.injEq] at hb
    subst hb
    obtain ⟨bs, rfl⟩ := all_some (bl := bl) fun i hi => by
      obtain ⟨b', hb'⟩ := h (i + 1) (by simpa using hi)
      exact ⟨b', by simpa using hb'⟩
    exact ⟨b :: bs, rfl⟩
theorem gv_some : ∀ bs : List Blk, gvBl (bs.map some) = bs.flatMap gvB
  | [] => rfl
  | b :: bs => by
    show gvB b ++ gvBl (bs.map some) = gvB b ++ bs.flatMap gvB
    rw [gv_some bs]
theorem ok_pnil {env : Dn.Env} {st : Sto} {Q : List (D × D) → Sto → Prop} : Ok (pairsF [] env st) Q ↔ Q [] st := ok_some
theorem ok_pcons {f g : M D} {r : List (M D × M D)} {env : Dn.Env} {st : Sto} {Q : List (D × D) → Sto → Prop} : Ok (pairsF ((f, g) :: r) env st) Q ↔ Ok (f env st) fun a s => Ok (g env s) fun b s => Ok (pairsF r env s) fun t s => Q ((a, b) :: t) s := by
  conv => lhs; unfold pairsF
  rw [ok_bind]
  simp only [ok_bind, ok_some]
theorem ok_disp {fs : List (M D × M D)} {env : Dn.Env} {st : Sto} {Q : D → Sto → Prop} (h : Ok (pairsF fs env (st.push (.dic []))) fun ps s => s.get st.size = some (.dic []) ∧ ∃ kvs, keyAll ps = some kvs ∧ kvs.length ≤ 15 ∧ Q (.ref st.size) (s.set st.size (.dic (kMerge [] kvs)))) : Ok (dispF fs env st) Q := by
  obtain ⟨ps, s, e, h1, kvs, h2, h3, q⟩ := h
  unfold dispF
  rw [e, Option.bind_some]
  simp only [h1, h2, Option.bind_some]
  rw [if_pos h3]
  exact ok_some.mpr q
theorem function_ok {P Cl C : Nat} {cells : List Int} {calls : List (Str × Int × Int)} {fi : List Kd} {nm : Str} {many mo bu : Int} (hP : PotAt P Cl cells st) (hC : st.get C = some (.lst (calls.map cD))) (hne : C ≠ Cl) (hF : (∀ k ∈ fi, k = .num ∨ k = .tru) ∧ fi.length ≤ 8 ∧ (∀ x ∈ calls, 1 ≤ x.2.1 ∧ x.2.1 ≤ 9 ∧ 0 ≤ x.2.2 ∧ x.2.2 ≤ x.2.1) ∧ calls.length ≤ 7) (hm : 0 ≤ many ∧ many ≤ 9)
    {G : D → Sto → Prop} (hG : ∀ s bs, FOk bs → PotAt P Cl cells s → Fm [P] st s → G (.tup [.str nm, Kd.num.d, .tup (bs.map Blk.d)]) s) : Ok (Hd.runs (k + 13) 22 [.ref P, .tup [.str nm, .int many, .int mo], .ref C, .int bu, .tup (fi.map Kd.d)] st) G := by
  show Ok (bodyD _ (Hd.b__law_function (Hd.runs (k + 12))) _ st) G
  refine ok_body ?_
  unfold Hd.b__law_function
  have hs : SZ = 16777216 := by decide
  have z0 : 0 ≤ SZ := by decide
  -- the state's dict
  show OkS (seqS _ _ [some (.ref P), some (.tup [.str nm, .int many, .int mo]), some (.ref C), some (.int bu), some (.tup (fi.map Kd.d)), none] st) _
  refine seq_set.mpr (ok_disp ?_)
  simp only [ok_pcons, ok_pnil, ok_lst, ok_nil, ok_c, ok_var0, ok_varS, List.length_nil, z0, true_and]
  generalize hs0 : st.push (.dic []) = s0
  have w0 : s0.size = st.size + 1 := by rw [← hs0, Sto.size_push]
  have d0 : s0.get st.size = some (.dic []) := by rw [← hs0]; exact Sto.get_push_new
  have f0 : Fm [] st s0 := by rw [← hs0]; exact Fm.push
  generalize hs1 : s0.push (.lst []) = s1
  have w1 : s1.size = st.size + 2 := by rw [← hs1, Sto.size_push, w0]
  have q1 : s1.get s0.size = some (.lst []) := by rw [← hs1]; exact Sto.get_push_new
  have f1 : Fm [] s0 s1 := by rw [← hs1]; exact Fm.push
  generalize hs2 : s1.push (.lst []) = s2
  have w2 : s2.size = st.size + 3 := by rw [← hs2, Sto.size_push, w1]
  have q2 : s2.get s1.size = some (.lst []) := by rw [← hs2]; exact Sto.get_push_new
  have f2 : Fm [] s1 s2 := by rw [← hs2]; exact Fm.push
  generalize hs3 : s2.push (.lst []) = s3
  have w3 : s3.size = st.size + 4 := by rw [← hs3, Sto.size_push, w2]
  have q3 : s3.get s2.size = some (.lst []) := by rw [← hs3]; exact Sto.get_push_new
  have f3 : Fm [] s2 s3 := by rw [← hs3]; exact Fm.push
  generalize hs4 : s3.push (.lst []) = s4
  have w4 : s4.size = st.size + 5 := by rw [← hs4, Sto.size_push, w3]
  have q4 : s4.get s3.size = some (.lst []) := by rw [← hs4]; exact Sto.get_push_new
  have f4 : Fm [] s3 s4 := by rw [← hs4]; exact Fm.push
  have f34 := f4
  have f24 : Fm [] s2 s4 := f3.trans f34 fun i q => by cases q
  have f14 : Fm [] s1 s4 := f2.trans f24 fun i q => by cases q
  have f04 : Fm [] s0 s4 := f1.trans f14 fun i q => by cases q
  refine ⟨f04.keep d0 (by simp), _, rfl, (by show 8 ≤ 15; decide), ?_⟩
  have hm1 : kMerge [] [(Sum.inr "blocks", D.ref s0.size), (Sum.inr "now", .int 0), (Sum.inr "rows", .ref s1.size), (Sum.inr "params", .ref s2.size), (Sum.inr "env", .ref s3.size), (Sum.inr "next", .int 0), (Sum.inr "line", .int 0), (Sum.inr "calls", .ref C)] = ([(Sum.inr "blocks", D.ref s0.size), (Sum.inr "now", .int 0), (Sum.inr "rows", .ref s1.size), (Sum.inr "params", .ref s2.size), (Sum.inr "env", .ref s3.size), (Sum.inr "next", .int 0), (Sum.inr "line", .int 0), (Sum.inr "calls", .ref C)] : List (Key × D)) := rfl
  rw [hm1]
  generalize hD1 : ([(Sum.inr "blocks", D.ref s0.size), (Sum.inr "now", .int 0), (Sum.inr "rows", .ref s1.size), (Sum.inr "params", .ref s2.size), (Sum.inr "env", .ref s3.size), (Sum.inr "next", .int 0), (Sum.inr "line", .int 0), (Sum.inr "calls", .ref C)] : List (Key × D)) = D1
  generalize hs5 : s4.set st.size (.dic D1) = s5
  have w5 : s5.size = st.size + 5 := by rw [← hs5, Sto.size_set, w4]
  have d5 : s5.get st.size = some (.dic D1) := by rw [← hs5]; exact Sto.get_set_same (by omega)
  have g5 : ∀ i, i ≠ st.size → s5.get i = s4.get i := fun i hi => by rw [← hs5]; exact Sto.get_set_ne hi
  show OkS (seqS _ _ [some (.ref P), some (.tup [.str nm, .int many, .int mo]), some (.ref C), some (.int bu), some (.tup (fi.map Kd.d)), some (.ref st.size)] s5) _
  -- the rest of it
  have hdk : isDk s5 (.ref st.size) = true := by
    show (match s5.get st.size with
      | some (.dic _) => true
      | _ => false) = true
    rw [d5]
  refine seq_expr.mpr (ok_meth.mpr ⟨.ref st.size, s5, rfl, hdk, ok_cons.mpr (ok_disp ?_)⟩)
  simp only [ok_pcons, ok_pnil, ok_op, ok_c, ok_var0, ok_varS, get_ti, at_lit2, Option.map_some, ok_some]
  generalize hs6 : s5.push (.dic []) = s6
  have w6 : s6.size = st.size + 6 := by rw [← hs6, Sto.size_push, w5]
  refine ⟨by rw [← hs6]; exact Sto.get_push_new, _, rfl, (by show 3 ≤ 15; decide), ok_nil.mpr ?_⟩
  have hm2 : kMerge [] [(Sum.inr "budget", D.int bu), (Sum.inr "fields", .tup (fi.map Kd.d)), (Sum.inr "most", .int mo)] = ([(Sum.inr "budget", D.int bu), (Sum.inr "fields", .tup (fi.map Kd.d)), (Sum.inr "most", .int mo)] : List (Key × D)) := rfl
  rw [hm2]
  generalize hs7 : s6.set s5.size (.dic [(Sum.inr "budget", D.int bu), (Sum.inr "fields", .tup (fi.map Kd.d)), (Sum.inr "most", .int mo)]) = s7
  have w7 : s7.size = st.size + 6 := by rw [← hs7, Sto.size_set, w6]
  have d7 : s7.get st.size = some (.dic D1) := by rw [← hs7, Sto.get_set_ne (by omega), ← hs6, Sto.get_push_lt (by omega)]; exact d5
  have d7' : s7.get s5.size = some (.dic [(Sum.inr "budget", D.int bu), (Sum.inr "fields", .tup (fi.map Kd.d)), (Sum.inr "most", .int mo)]) := by rw [← hs7]; exact Sto.get_set_same (by omega)
  have hl1 : D1.length = 8 := by rw [← hD1]; rfl
  have hup : updateD (.ref st.size) [.ref s5.size] s7 = some (.non, s7.set st.size (.dic (kMerge D1 [(Sum.inr "budget", D.int bu), (Sum.inr "fields", .tup (fi.map Kd.d)), (Sum.inr "most", .int mo)]))) := by
    unfold updateD
    simp only [d7, d7']
    rw [if_pos ⟨by omega, by rw [hl1]; show 8 + 3 ≤ SZ; decide⟩]
  rw [hup]
  refine ok_some.mpr ?_
  have hm3 : kMerge D1 [(Sum.inr "budget", D.int bu), (Sum.inr "fields", .tup (fi.map Kd.d)), (Sum.inr "most", .int mo)] = stD s0.size 0 s1.size s2.size s3.size 0 0 C bu fi mo := by rw [← hD1]; rfl
  rw [hm3]
  generalize hs8 : s7.set st.size (.dic (stD s0.size 0 s1.size s2.size s3.size 0 0 C bu fi mo)) = s8
  have w8 : s8.size = st.size + 6 := by rw [← hs8, Sto.size_set, w7]
  have d8 : s8.get st.size = some (.dic (stD s0.size 0 s1.size s2.size s3.size 0 0 C bu fi mo)) := by rw [← hs8]; exact Sto.get_set_same (by omega)
  have g8 : ∀ i, i ≠ st.size → i < st.size + 5 → s8.get i = s4.get i := fun i hi hl => by
    rw [← hs8, Sto.get_set_ne hi, ← hs7, Sto.get_set_ne (by omega), ← hs6, Sto.get_push_lt (by omega), g5 i hi]
  have old : ∀ i, i < st.size → s8.get i = st.get i := fun i hi => by
    rw [g8 i (by omega) (by omega), f04.get i (by omega) (by simp), f0.get i hi (by simp)]
  have f8 : Fm [P] st s8 := ⟨by omega, fun i hi _ => old i hi⟩
  obtain ⟨pa, pl, pm, px, pp1, _, _, _, pp2⟩ := id hP
  have hPl := Sto.get_lt pp1
  have hCll := Sto.get_lt pp2
  have hCl := Sto.get_lt hC
  let c : Fx := ⟨st.size, P, Cl, C, cells, calls, fi, mo⟩
  let g0 : Gs := ⟨s0.size, s1.size, s3.size, s2.size, 0, 0, 0, bu, [], [], [], []⟩
  have hFx : FxOk c := ⟨hF.1, hF.2.1, hF.2.2.1, hF.2.2.2⟩
  have A8 : At c g0 s8 := by
    refine ⟨d8, hP.of (old P hPl) (old Cl hCll), ?_, ?_, ?_, ?_, ?_, ?_, ?_⟩
    · show s8.get s0.size = _; rw [g8 _ (by omega) (by omega)]; exact f14.keep q1 (by simp)
    · show s8.get s1.size = _; rw [g8 _ (by omega) (by omega)]; exact f24.keep q2 (by simp)
    · show s8.get s3.size = _; rw [g8 _ (by omega) (by omega)]; exact q4
    · show s8.get s2.size = _; rw [g8 _ (by omega) (by omega)]; exact f34.keep q3 (by simp)
    · show s8.get C = _; rw [old C hCl]; exact hC
    · show [s0.size, s1.size, s3.size, s2.size, C, Cl].Nodup
      simp only [List.nodup_cons, List.mem_cons, List.not_mem_nil, or_false, not_or, List.nodup_nil, and_true, not_false_eq_true]
      refine ⟨⟨?_, ?_, ?_, ?_, ?_⟩, ⟨?_, ?_, ?_, ?_⟩, ⟨?_, ?_, ?_⟩, ⟨?_, ?_⟩, hne⟩ <;> omega
    · show st.size ≠ P; omega
  have z1 : 0 + 1 ≤ SZ := by decide
  -- the first block
  refine seq_expr.mpr (ok_call.mpr (ok_cons.mpr ⟨.ref st.size, s8, rfl, ok_cons.mpr (ok_call.mpr ⟨[.ref st.size], s8, rfl, rfl, open_ok (c := c) (k := k + 11) A8 (by show 0 < SZ; decide) fun s9 A9 f9 z9 => ok_cons.mpr ?_⟩)⟩))
  simp only [List.map_cons, List.map_nil, List.length_cons, List.length_nil, List.cons_append, List.nil_append, List.replicate, List.set_cons_zero, List.set_cons_succ, ok_op, ok_un, ok_c, ok_nil, ok_cons, ok_tup, ok_lst, ok_var0, ok_varS, ok_call, ok_tst, ok_and, ok_or, ok_not, ok_meth, ok_bind, ok_some, ok_ite, ok_mapv, add_ii, add_tt, add_rr, sub_ii, mul_ii, mul_ti, mul_ri, mod_ii, fdiv_ii, pow_ii, lt_ii, get_ti, get_ri, get_rs, len_t, len_r, abs_i, int_b, list_t, list_r, tuple_t, tuple_r, dict_r, is_n, in_t, in_r, addI_ii, subI_ii, min_ii, append_r, key_i, key_s, eq_int, D.bl.injEq, exists_eq_left, exists_eq_left', exists_eq_right, exists_eq_right', exists_eq', Option.some.injEq, decide_eq_true_eq, decide_eq_false_iff_not, Bool.false_eq_true, if_false, if_true, reduceCtorEq, false_implies, true_implies, true_and, and_true, forall_const, imp_self, Bool.not_true, Bool.not_false, Bool.not_eq_true', Bool.not_eq_false', not_true_eq_false, not_false_eq_true, not_true_eq_false, not_false_eq_true, at_lit0, at_lit1, at_lit2, at_lit3, at_lit4, at_lit5, List.length_replicate, z1]
  generalize hs10 : s9.push (.lst [Kd.num.d]) = s10
  have e10 : s10.get s9.size = some (.lst [Kd.num.d]) := by rw [← hs10]; exact Sto.get_push_new
  rw [show Kd.num.d = D.tup [.str "number"] from rfl] at hs10 e10
  rw [hs10, e10]
  simp only [ok_ite, ok_some]
  refine ⟨⟨by omega, by omega, ?_⟩, ?_⟩
  · show 1 * many.toNat ≤ SZ
    omega
  have rep : (List.replicate many.toNat [D.tup [.str "number"]]).flatten = (List.replicate many.toNat Kd.num).map Kd.d := by
    rw [List.flatten_replicate_singleton, List.map_replicate]
    rfl
  rw [rep]
  generalize hs11 : s10.push (.lst ((List.replicate many.toNat Kd.num).map Kd.d)) = s11
  have f911 : Fm [] s9 s11 := by
    rw [← hs11, ← hs10]
    exact Fm.push.trans (Fm.push (W := [])) fun i q => by cases q
  have A11 := A9.fm0 f911
  have e11 : s11.get s10.size = some (.lst ((List.replicate many.toNat Kd.num).map Kd.d)) := by rw [← hs11]; exact Sto.get_push_new
  have klen : (List.replicate many.toNat Kd.num).length = many.toNat := List.length_replicate
  have ge0 : GE { g0 with bl := g0.bl ++ [none] } := ⟨fun e he => (by cases he), Int.le_refl _, Int.le_refl _, Int.le_refl _, Int.le_refl _, fun b hb => by
    have hb : some b ∈ [none] := hb
    simp at hb⟩
  refine begin_ok (c := c) (k := k + 11) (ks := List.replicate many.toNat Kd.num) A11 ge0 ⟨by show 0 + ((List.replicate many.toNat Kd.num).length : Int) ≤ _; rw [klen]; omega, by show 0 + ((List.replicate many.toNat Kd.num).length : Int) ≤ _; rw [klen]; omega⟩ (.inr ⟨_, rfl, e11⟩) fun s12 nm' R E Pa A12 q12 r0 r1 r2 r3 r4 r5 r6 f12 => ?_
  generalize hg1 : ({ g0 with bl := g0.bl ++ [none] } : Gs).begin (g0.bl.length : Nat) (List.replicate many.toNat Kd.num) R E Pa = g1 at A12
  have il : (irange 0 (0 + ((List.replicate many.toNat Kd.num).length : Int))).length = many.toNat := by rw [irange_len, klen]; omega
  have zf : ((irange 0 (0 + ((List.replicate many.toNat Kd.num).length : Int))).zip (List.replicate many.toNat Kd.num)).map (·.1) = irange 0 (0 + ((List.replicate many.toNat Kd.num).length : Int)) := List.map_fst_zip (by rw [il, klen]; exact Nat.le_refl _)
  have K1 : Bk c g1 := by
    rw [← hg1]
    refine ⟨⟨fun e he => ?_, ?_, Int.le_refl _, Int.le_refl _, ?_, fun b hb => (by
      have hb : some b ∈ [none] := hb
      simp at hb)⟩, ?_, fun r hr => (by cases hr), fun b hb => ?_, ⟨Int.le_refl _, rfl⟩⟩
    · show 0 ≤ e.1 ∧ e.1 < 0 + ((List.replicate many.toNat Kd.num).length : Int)
      have he : e ∈ (irange 0 (0 + ((List.replicate many.toNat Kd.num).length : Int))).zip (List.replicate many.toNat Kd.num) := he
      have : e.1 ∈ irange 0 (0 + ((List.replicate many.toNat Kd.num).length : Int)) := by rw [← zf]; exact List.mem_map_of_mem he
      exact irange_mem.mp this
    · show 0 ≤ 0 + ((List.replicate many.toNat Kd.num).length : Int); omega
    · show (((irange 0 (0 + ((List.replicate many.toNat Kd.num).length : Int))).zip (List.replicate many.toNat Kd.num)).length : Int) ≤ 0 + ((List.replicate many.toNat Kd.num).length : Int)
      rw [List.length_zip, il, klen]; omega
    · show ([] ++ (List.map (fun p : Int × Kd => p.1) ((irange 0 (0 + ((List.replicate many.toNat Kd.num).length : Int))).zip (List.replicate many.toNat Kd.num)) ++ [])).Perm (irange 0 (0 + ((List.replicate many.toNat Kd.num).length : Int)))
      rw [zf, List.nil_append, List.append_nil]
    · have hb : some b ∈ [none] := hb
      simp at hb
  have x1 : g1.nx = many ∧ g1.ln = 0 ∧ g1.bl.length = 1 ∧ g1.now = 0 ∧ g1.B = s0.size ∧ g1.R = R ∧ g1.E = E ∧ g1.bl = [none] := by
    rw [← hg1]
    refine ⟨?_, rfl, rfl, rfl, rfl, rfl, rfl, rfl⟩
    show 0 + ((List.replicate many.toNat Kd.num).length : Int) = many
    rw [klen]; omega
  have h1 := Go.start A12 K1
  have cb3 : cbN 3 = 453000 := rfl
  have bb3 : bbN 3 = 387 := rfl
  have hlim : Lim 500000 g1 := ⟨by omega, by omega⟩
  -- the tick
  refine seq_expr.mpr (ok_call.mpr ⟨[.ref c.S, oK none, .str "tick", .tup [], .tup []], s12, rfl, rfl, put1 (k := k + 11) (kd := none) (xs := []) (n := 3) A12 K1.ge (hlim.mono (by omega)) (by omega) (.inl rfl) (by simp) fun s13 g2 A13 gr2 eg2 f13 w13 => ?_⟩)
  have h2 := h1.gr gr2 A13 f13
  have n2 : g2.now = 0 := gr2.now.trans x1.2.2.2.1
  have h2' : Go c (0 + 1) 0 [g2.now] true g1 g2 s12 s13 := by rw [gr2.now]; exact h2
  -- its body
  refine seq_expr.mpr (ok_call.mpr ⟨[.ref c.S, .ref c.P, .int (3 - (3 : Nat))], s13, rfl, rfl, (body_all 3 k : BodyOk (k + 2 * 3 + 6) 3) hFx A13 h2'.bk (Lim.go (hlim.mono (by rw [cb3]; omega)) h2) (by rw [gr2.bl, x1.2.2.1, bb3]; decide) fun s14 g3 h3 => ?_⟩)
  have h4 := h2'.sub h3
  rw [List.erase_cons_head] at h4
  -- what is given
  refine seq_expr.mpr (ok_call.mpr (ok_cons.mpr ⟨.ref st.size, s14, rfl, ok_cons.mpr (ok_tup.mpr (ok_cons.mpr ⟨.str "give", s14, rfl, ok_cons.mpr (ok_call.mpr ⟨[.ref c.S, .ref c.P, .tup [.str "number"]], s14, rfl, rfl, name_ok (k := k + 8) (a := .k .num) hFx trivial h4.A h4.ge (Lim.go (hlim.mono (by rw [cb3]; omega)) h4) fun s15 g5 x A15 gr5 x0 x2 f15 => ok_nil.mpr ⟨(by show 2 ≤ SZ; decide), ok_nil.mpr ⟨rfl, ?_⟩⟩⟩)⟩))⟩))
  have h5 := h4.gr gr5 A15 f15
  have h5' : Go c (0 + 1 + cbN 3 + 10) (0 + bbN 3) [g5.now] true g1 g5 s12 s15 := by rw [gr5.now]; exact h5
  obtain ⟨p0, p1, _⟩ := h5'.pdo _ (h5'.cun rfl)
  have pl := (List.getElem?_eq_some_iff.mp p1).1
  refine end_ok (c := c) (k := k + 11) A15 (.give x) p0 (by omega) fun s16 A16 f16 z16 => ?_
  have h6 := h5'.end' (en := .give x) ⟨x0, x2⟩ A16 f16
  rw [List.erase_cons_head] at h6
  generalize hg6 : ({ g5 with bl := g5.bl.set g5.now.toNat (some ⟨g5.pr, g5.rs, .give x⟩) } : Gs) = g6 at A16 h6
  -- all blocks are ended
  obtain ⟨bs, hbs⟩ := all_some (bl := g6.bl) fun i hi => h6.fill i (by
    rcases Nat.eq_zero_or_pos i with q | q
    · exact .inl (by rw [x1.2.2.2.1, q]; rfl)
    · exact .inr (by rw [x1.2.2.1]; exact q)) hi (by simp)
  have hbl := h6.bl
  have hnx := h6.nx
  have lb : g6.bl.length = bs.length := by rw [hbs, List.length_map]
  have FO : FOk bs := by
    refine ⟨⟨g6.nx, h6.ge.nx, by rw [cb3] at hnx; omega, ?_, fun b hb => ?_⟩, by rw [bb3] at hbl; omega, by omega, fun b hb => by
      have q1 := h6.ge.bw b (by rw [hbs]; exact List.mem_map_of_mem hb)
      have q2 := h6.ln
      rw [cb3] at q2
      omega⟩
    · have := h6.nm
      simp only [Bool.false_eq_true, if_false, List.append_nil] at this
      rw [hbs, gv_some] at this
      exact this
    · have := h6.bo b (by rw [hbs]; exact List.mem_map_of_mem hb)
      rw [lb] at this
      exact this
  refine oks_ret.mpr ?_
  have z3 : 0 + 1 + 1 + 1 ≤ SZ := by decide
  have eB := A16.B
  rw [hbs, List.map_map] at eB
  have gB : opF getD (varF 5) (cF (.str "blocks")) [some (.ref P), some (.tup [.str nm, .int many, .int mo]), some (.ref C), some (.int bu), some (.tup (fi.map Kd.d)), some (.ref st.size)] s16 = some (.ref g6.B, s16) := by
    show getD (.ref c.S) (.str "blocks") s16 = _
    rw [get_rs, A16.S]
    simp only [st_blocks, Option.map_some]
  refine ok_tup.mpr (ok_cons.mpr ⟨.str nm, s16, rfl, ok_cons.mpr ⟨Kd.num.d, s16, rfl, ok_cons.mpr (ok_un.mpr ⟨_, s16, gB, ?_⟩)⟩⟩)
  show Ok (tupleD (.ref g6.B) s16) _
  rw [tuple_r, seq_get eB]
  refine ok_some.mpr (ok_nil.mpr ⟨(by show 3 ≤ SZ; decide), ?_⟩)
  have eO : bs.map (oB ∘ some) = bs.map Blk.d := rfl
  rw [eO]
  refine hG s16 bs FO A16.P ?_
  have l12 := h6.fm
  have f912 : Fm [c.S] s9 s12 := (f911.mono (fun i q => by cases q)).trans f12 fun i q => .inl q
  have fa : Fm [P] st s9 := f8.trans f9 fun i q => .inr (by
    simp only [List.mem_cons, List.not_mem_nil, or_false] at q
    rw [q]; show st.size ≤ s0.size; omega)
  have fb : Fm [P] st s12 := fa.trans f912 fun i q => .inr (by
    simp only [List.mem_cons, List.not_mem_nil, or_false] at q
    rw [q]; exact Nat.le_refl _)
  have l9 : st.size ≤ s9.size := by omega
  have l11 := f911.le
  refine fb.trans l12 fun i q => ?_
  simp only [List.mem_cons, List.not_mem_nil, or_false] at q ⊢
  rcases q with q | q | q | q | q
  · exact .inr (by rw [q]; exact Nat.le_refl _)
  · exact .inl q
  · exact .inr (by rw [q, x1.2.2.2.2.1]; omega)
  · exact .inr (by rw [q, x1.2.2.2.2.2.1]; omega)
  · exact .inr (by rw [q, x1.2.2.2.2.2.2.1]; omega)
end
end Mw
/-! The middle. -/
namespace Mw
open PySem PySem.Spec PyProof.Rows L2 Dn
section
variable {f : M D} {lo hi : MO} {env : Dn.Env} {st : Sto}
theorem ok_slr {Q : D → Sto → Prop} (h : Ok (f env st) fun d s1 => ∃ n, d = .ref n ∧ Ok (lo env s1) fun l s2 => Ok (hi env s2) fun h s3 => ∃ xs, s3.get n = some (.lst xs) ∧ Q (.ref s3.size) (s3.push (.lst (Dn.cutD xs l h)))) : Ok (slF f lo hi env st) Q := by
  unfold slF
  refine ok_bind.mpr (h.imp ?_)
  rintro d s1 ⟨n, rfl, h⟩
  refine ok_bind.mpr (h.imp fun l s2 h => ok_bind.mpr (h.imp ?_))
  rintro u s3 ⟨xs, hx, q⟩
  show Ok (match s3.seq n with
    | some xs => some (.ref s3.size, s3.push (.lst (Dn.cutD xs l u)))
    | none => none) Q
  rw [seq_get hx]
  exact ok_some.mpr q
theorem ok_no {Q : Option Int → Sto → Prop} : Ok (noF env st) Q ↔ Q none st := ok_some
theorem ok_so {Q : Option Int → Sto → Prop} (h : Ok (f env st) fun d s => ∃ i, d = .int i ∧ Q (some i) s) : Ok (soF f env st) Q := by
  unfold soF
  refine ok_bind.mpr (h.imp ?_)
  rintro d s ⟨i, rfl, q⟩
  exact ok_some.mpr q
end
theorem cut_map {α : Type} (f : α → D) (xs : List α) (l h : Option Int) : ∃ ys : List α, Dn.cutD (xs.map f) l h = ys.map f ∧ (∀ y ∈ ys, y ∈ xs) ∧ ys.length ≤ xs.length := by
  unfold Dn.cutD
  rw [List.length_map]
  refine ⟨(xs.drop (HT.sIx xs.length 0 l)).take (HT.sIx xs.length xs.length h - HT.sIx xs.length 0 l), by rw [List.map_take, List.map_drop], fun x hx => List.mem_of_mem_drop (List.mem_of_mem_take hx), ?_⟩
  rw [List.length_take, List.length_drop]
  omega
def fnD (f : Str × List Blk) : D := .tup [.str f.1, Kd.num.d, .tup (f.2.map Blk.d)]
section
variable {P Cl : Nat} {cells : List Int} {st : Sto} {k : Nat}
theorem takeP {n : Int} (h : PotAt P Cl cells st) (h1 : 1 ≤ n) (h2 : n < 1073741824) {G : D → Sto → Prop} (hG : ∀ s (i : Int), 0 ≤ i → i < n → PotAt P Cl cells s → Fm [P] st s → G (.int i) s) : Ok (Hd.runs (k + 2) 11 [.ref P, .int n] st) G :=
  (take_ok h h1 h2).imp fun d s ⟨i, e, i0, i1, hp, f⟩ => by
    subst e
    exact hG s i i0 i1 hp (f.fm (by simp))
theorem PotAt.fm0 {s : Sto} (h : PotAt P Cl cells st) (f : Fm [] st s) : PotAt P Cl cells s := by
  obtain ⟨a, l, m, mx, q1, q2, q3, q4, q5⟩ := id h
  exact h.of (f.get P (Sto.get_lt q1) (by simp)) (f.get Cl (Sto.get_lt q5) (by simp))
theorem Fm.p0 {s : Sto} (f : Fm [] st s) : Fm [P] st s := f.mono fun i q => by cases q
theorem Fm.tp {s1 s2 : Sto} (a : Fm [P] st s1) (b : Fm [P] s1 s2) : Fm [P] st s2 := a.trans b fun i q => .inl q
/-- one of a few ints, drawn -/
theorem pick_ok {is : List Int} {fs : M (List D)} {e : Dn.Env} {n : Int} (hfs : ∀ s, fs (some (.ref P) :: e) s = some (is.map .int, s)) (hn : n = is.length) (h1 : 1 ≤ n ∧ n ≤ 100) (hP : PotAt P Cl cells st) {G : D → Sto → Prop} (hG : ∀ s v, v ∈ is → PotAt P Cl cells s → Fm [P] st s → G (.int v) s) :
    Ok (opF getD (lstF fs) (callF 2 (Hd.runs (k + 2) 11) (consF (varF 0) (consF (cF (.int n)) nilF))) (some (.ref P) :: e) st) G := by
  have hs : SZ = 16777216 := by decide
  refine ok_op.mpr (ok_lst.mpr ⟨_, st, hfs st, by rw [List.length_map]; omega, ?_⟩)
  generalize hs1 : st.push (.lst (is.map D.int)) = s1
  have f1 : Fm [] st s1 := by rw [← hs1]; exact Fm.push
  have e1 : s1.get st.size = some (.lst (is.map D.int)) := by rw [← hs1]; exact Sto.get_push_new
  have P1 := hP.fm0 f1
  refine ok_call.mpr (ok_cons.mpr ⟨_, s1, rfl, ok_cons.mpr ⟨_, s1, rfl, ok_nil.mpr ⟨rfl, takeP P1 h1.1 (by omega) fun s i i0 i1 P2 f2 => ?_⟩⟩⟩)
  obtain ⟨a, l, m, mx, q1, _⟩ := id hP
  have hPl := Sto.get_lt q1
  have e2 := f2.keep e1 (by
    simp only [List.mem_cons, List.not_mem_nil, or_false]
    omega)
  obtain ⟨x, hx, hx2⟩ := atI_ge (xs := is.map D.int) (i := i) i0 (by rw [List.length_map]; omega)
  rw [List.getElem?_map] at hx2
  obtain ⟨v, hv, rfl⟩ := mapS hx2
  rw [get_ri, e2]
  exact ok_mapv.mpr ⟨_, hx, hG s v (List.mem_of_getElem? hv) P2 (f1.p0.tp f2)⟩
theorem mo_ok {a b : Int} {T : Nat} {xs : List D} {e : Dn.Env} (hv : ∀ s, varF 4 e s = some (.ref T, s)) (hT : st.get T = some (.lst xs)) (hl : xs.length = 2 ∨ xs.length = 7) {G : D → Sto → Prop} (hG : ∀ s mo, Fm [] st s → G (.int mo) s) :
    Ok (opF getD (lstF (consF (cF (.int a)) (consF (cF (.int b)) nilF))) (opF fdivD (unF lenD (varF 4)) (cF (.int 7))) e st) G := by
  refine ok_op.mpr (ok_lst.mpr ⟨_, st, rfl, by show 2 ≤ SZ; decide, ?_⟩)
  generalize hs1 : st.push (.lst [.int a, .int b]) = s1
  have f1 : Fm [] st s1 := by rw [← hs1]; exact Fm.push
  have e1 : s1.get st.size = some (.lst [.int a, .int b]) := by rw [← hs1]; exact Sto.get_push_new
  refine ok_op.mpr (ok_un.mpr ⟨_, _, hv s1, ?_⟩)
  show Ok (lenD (.ref T) s1) _
  rw [len_r, f1.keep hT (by simp)]
  simp only
  refine ok_some.mpr (ok_c.mpr ?_)
  rw [fdiv_ii, if_pos ⟨by decide, by decide⟩]
  refine ok_some.mpr ?_
  rw [get_ri, e1]
  simp only
  rcases hl with hl | hl <;> rw [hl]
  · have : Int.fdiv ((2 : Nat) : Int) 7 = 0 := by decide
    rw [this, at_lit0]
    exact ok_some.mpr (hG _ _ f1)
  · have : Int.fdiv ((7 : Nat) : Int) 7 = 1 := by decide
    rw [this, at_lit1]
    exact ok_some.mpr (hG _ _ f1)
abbrev CallOk (calls : List (Str × Int × Int)) : Prop := ∀ x ∈ calls, 1 ≤ x.2.1 ∧ x.2.1 ≤ 9 ∧ 0 ≤ x.2.2 ∧ x.2.2 ≤ x.2.1
structure MidS (P Cl : Nat) (cells : List Int) (T F : Nat) (calls : List (Str × Int × Int)) (fs : List (Str × List Blk)) (s : Sto) : Prop where
  pot : PotAt P Cl cells s
  Te : s.get T = some (.lst (calls.map cD))
  Fe : s.get F = some (.lst (fs.map fnD))
  ne : T ≠ P ∧ T ≠ Cl ∧ F ≠ P ∧ F ≠ Cl ∧ T ≠ F
  fo : ∀ f ∈ fs, FOk f.2
  fl : fs.length ≤ 100
  co : CallOk calls
  cl : calls.length = 2 ∨ calls.length = 7
variable {T F : Nat} {calls : List (Str × Int × Int)} {fs : List (Str × List Blk)} {s : Sto}
theorem MidS.fm (h : MidS P Cl cells T F calls fs st) (f : Fm [P] st s) (hp : PotAt P Cl cells s) : MidS P Cl cells T F calls fs s :=
  ⟨hp, f.keep h.Te (by simp [h.ne.1]), f.keep h.Fe (by simp [h.ne.2.2.1]), h.ne, h.fo, h.fl, h.co, h.cl⟩
theorem MidS.fm0 (h : MidS P Cl cells T F calls fs st) (f : Fm [] st s) : MidS P Cl cells T F calls fs s := h.fm f.p0 (h.pot.fm0 f)
theorem MidS.app (h : MidS P Cl cells T F calls fs st) {b : Str × List Blk} (hb : FOk b.2) (hl : fs.length < 100) : MidS P Cl cells T F calls (fs ++ [b]) (st.set F (.lst ((fs ++ [b]).map fnD))) := by
  obtain ⟨h1, h2, h3, h4, h5⟩ := h.ne
  refine ⟨h.pot.of (Sto.get_set_ne fun q => h3 q.symm) (Sto.get_set_ne fun q => h4 q.symm), (Sto.get_set_ne h5).trans h.Te, Sto.get_set_same (Sto.get_lt h.Fe), h.ne, fun f hf => ?_, by rw [List.length_append]; show fs.length + 1 ≤ 100; omega, h.co, h.cl⟩
  rcases List.mem_append.mp hf with hf | hf
  · exact h.fo f hf
  · rw [List.mem_singleton.mp hf]; exact hb
/-- a function more -/
theorem addfn_ok {fC fB : M D} {fi : List Kd} {a1 a2 a5 a6 a8 a9 a11 : Option D} {nm : Str} {many mo : Int} (h : MidS P Cl cells T F calls fs st) (hl : fs.length < 100) (hfi : (∀ k ∈ fi, k = .num ∨ k = .tru) ∧ fi.length ≤ 8) (hm : 0 ≤ many ∧ many ≤ 9)
    {e : Dn.Env} (he : e = [some (.ref P), a1, a2, some (.tup (fi.map Kd.d)), some (.ref T), a5, a6, some (.ref F), a8, a9, some (.tup [.str nm, .int many, .int mo]), a11])
    (hC : Ok (fC e st) fun d s1 => ∃ C cs, d = .ref C ∧ s1.get C = some (.lst (cs.map cD)) ∧ C ≠ Cl ∧ CallOk cs ∧ cs.length ≤ 7 ∧ MidS P Cl cells T F calls fs s1 ∧ ∃ bu : Int, fB e s1 = some (.int bu, s1)) {R : Res → Prop}
    (hR : ∀ s b, FOk b.2 → MidS P Cl cells T F calls (fs ++ [b]) s → R (.nx e s)) :
    OkS (exprS (methF isL appendD (varF 7) (consF (callF 5 (Hd.runs (k + 13) 22) (consF (varF 0) (consF (varF 10) (consF fC (consF fB (consF (varF 3) nilF)))))) nilF)) e st) R := by
  have hs : SZ = 16777216 := by decide
  have v0 : ∀ s, varF 0 e s = some (.ref P, s) := fun s => by rw [he]; rfl
  have v7 : ∀ s, varF 7 e s = some (.ref F, s) := fun s => by rw [he]; rfl
  have v10 : ∀ s, varF 10 e s = some (.tup [.str nm, .int many, .int mo], s) := fun s => by rw [he]; rfl
  have v3 : ∀ s, varF 3 e s = some (.tup (fi.map Kd.d), s) := fun s => by rw [he]; rfl
  refine oks_expr.mpr (ok_meth.mpr ⟨_, st, v7 st, isL_of h.Fe, ok_cons.mpr (ok_call.mpr (ok_cons.mpr ⟨_, st, v0 st, ok_cons.mpr ⟨_, st, v10 st, ok_cons.mpr (hC.imp ?_)⟩⟩))⟩)
  rintro d s1 ⟨C, cs, rfl, gC, nC, oC, lC, h1, bu, hB⟩
  refine ok_cons.mpr ⟨_, s1, hB, ok_cons.mpr ⟨_, s1, v3 s1, ok_nil.mpr ⟨rfl, function_ok (k := k) h1.pot gC nC ⟨hfi.1, hfi.2, oC, lC⟩ hm fun s2 bs fo P2 f2 => ok_nil.mpr ?_⟩⟩⟩
  have h2 := h1.fm f2 P2
  rw [append_r, h2.Fe]
  simp only
  rw [if_pos (by rw [List.length_map]; omega)]
  refine ok_some.mpr (hR _ (nm, bs) fo ?_)
  have e1 : fs.map fnD ++ [.tup [.str nm, Kd.num.d, .tup (bs.map Blk.d)]] = (fs ++ [(nm, bs)]).map fnD := by rw [List.map_append]; rfl
  rw [e1]
  exact h2.app (b := (nm, bs)) fo hl
def midD (c : Nat → FnD) : SM := (seqS (setS 10 (tupF (consF (cF (.str "main")) (consF (callF 2 (c 11) (consF (varF 0) (consF (cF (.int 5)) nilF))) (consF (opF getD (lstF (consF (cF (.int 90)) (consF (cF (.int 50)) nilF))) (opF fdivD (unF lenD (varF 4)) (cF (.int 7)))) nilF)))))
  (seqS (exprS (methF isL appendD (varF 7) (consF (callF 5 (c 22) (consF (varF 0) (consF (varF 10) (consF (varF 4) (consF (varF 1) (consF (varF 3) nilF)))))) nilF)))
  (seqS (setS 11 (callF 2 (c 11) (consF (varF 0) (consF (unF lenD (varF 7)) nilF))))
  (retS (tupF (consF (tupF (consF (tupF (consF (cF (.str "pair")) (consF (varF 3) nilF))) nilF)) (consF (unF tupleD (opF addD (slF (varF 7) (soF (varF 11)) (noF)) (slF (varF 7) (noF) (soF (varF 11))))) nilF)))))))
def midR (fi : List Kd) (fs : List (Str × List Blk)) : D := .tup [.tup [.tup [.str "pair", .tup (fi.map Kd.d)]], .tup (fs.map fnD)]
theorem midD_ok {fi : List Kd} {bu : Int} {a2 a5 a6 a8 a9 a10 : Option D} (h : MidS P Cl cells T F calls fs st) (hl : fs.length ≤ 7) (hfi : (∀ k ∈ fi, k = .num ∨ k = .tru) ∧ fi.length ≤ 8) {G : D → Sto → Prop} (hG : ∀ s fs, (∀ f ∈ fs, FOk f.2) → fs.length ≤ 16 → G (midR fi fs) s) :
    OkS (midD (Hd.runs (k + 13)) [some (.ref P), some (.int bu), a2, some (.tup (fi.map Kd.d)), some (.ref T), a5, a6, some (.ref F), a8, a9, a10, none] st) (fun r => match r with
    | .rt d s => G d s
    | .nx _ s => G .non s
    | _ => False) := by
  have hs : SZ = 16777216 := by decide
  unfold midD
  refine seq_set.mpr (ok_tup.mpr (ok_cons.mpr ⟨_, st, rfl, ok_cons.mpr (ok_call.mpr (ok_cons.mpr ⟨_, st, rfl, ok_cons.mpr ⟨_, st, rfl, ok_nil.mpr ⟨rfl, takeP (k := k + 11) h.pot (by decide) (by decide) fun s1 i i0 i1 P1 f1 => ?_⟩⟩⟩))⟩))
  have h1 := h.fm f1 P1
  have cl := h.cl
  refine ok_cons.mpr (mo_ok (T := T) (fun s => rfl) h1.Te (by rw [List.length_map]; exact cl) fun s2 mo f2 => ok_nil.mpr ⟨by show 3 ≤ SZ; decide, ?_⟩)
  have h2 := h1.fm0 f2
  show OkS (seqS _ _ [some (.ref P), some (.int bu), a2, some (.tup (fi.map Kd.d)), some (.ref T), a5, a6, some (.ref F), a8, a9, some (.tup [.str "main", .int i, .int mo]), none] s2) _
  refine oks_seq.mpr (addfn_ok (k := k) h2 (by omega) hfi ⟨i0, by omega⟩ rfl ⟨_, s2, rfl, T, calls, rfl, h2.Te, h2.ne.2.1, h2.co, by omega, h2, bu, rfl⟩ fun s3 b fb h3 => ?_)
  show OkS (seqS _ _ [some (.ref P), some (.int bu), a2, some (.tup (fi.map Kd.d)), some (.ref T), a5, a6, some (.ref F), a8, a9, some (.tup [.str "main", .int i, .int mo]), none] s3) _
  have fl3 : (fs ++ [b]).length = fs.length + 1 := by rw [List.length_append]; rfl
  refine seq_set.mpr (ok_call.mpr (ok_cons.mpr ⟨_, s3, rfl, ok_cons.mpr (ok_un.mpr ⟨.ref F, s3, rfl, ?_⟩)⟩))
  show Ok (lenD (.ref F) s3) _
  rw [len_r, h3.Fe]
  simp only
  rw [List.length_map, fl3]
  refine ok_some.mpr (ok_nil.mpr ⟨rfl, takeP (k := k + 11) h3.pot (by omega) (by omega) fun s4 t t0 t1 P4 f4 => ?_⟩)
  have h4 := h3.fm f4 P4
  show OkS (retS _ [some (.ref P), some (.int bu), a2, some (.tup (fi.map Kd.d)), some (.ref T), a5, a6, some (.ref F), a8, a9, some (.tup [.str "main", .int i, .int mo]), some (.int t)] s4) _
  refine oks_ret.mpr (ok_tup.mpr (ok_cons.mpr (ok_tup.mpr (ok_cons.mpr (ok_tup.mpr (ok_cons.mpr ⟨_, s4, rfl, ok_cons.mpr ⟨.tup (fi.map Kd.d), s4, rfl, ok_nil.mpr ⟨by show 2 ≤ SZ; decide, ok_nil.mpr ⟨by show 1 ≤ SZ; decide, ?_⟩⟩⟩⟩))))))
  refine ok_cons.mpr (ok_un.mpr (ok_op.mpr (ok_slr ⟨.ref F, s4, rfl, F, rfl, ok_so ⟨.int t, s4, rfl, t, rfl, ok_no.mpr ⟨_, h4.Fe, ?_⟩⟩⟩)))
  obtain ⟨g1, c1, m1, l1⟩ := cut_map fnD (fs ++ [b]) (some t) none
  rw [c1]
  generalize hs5 : s4.push (.lst (g1.map fnD)) = s5
  have f5 : Fm [] s4 s5 := by rw [← hs5]; exact Fm.push
  have e5 : s5.get s4.size = some (.lst (g1.map fnD)) := by rw [← hs5]; exact Sto.get_push_new
  have h5 := h4.fm0 f5
  refine ok_slr ⟨.ref F, s5, rfl, F, rfl, ok_no.mpr (ok_so ⟨.int t, s5, rfl, t, rfl, _, h5.Fe, ?_⟩)⟩
  obtain ⟨g2, c2, m2, l2⟩ := cut_map fnD (fs ++ [b]) none (some t)
  rw [c2]
  generalize hs6 : s5.push (.lst (g2.map fnD)) = s6
  have e56 : s6.get s4.size = some (.lst (g1.map fnD)) := by rw [← hs6, Sto.get_push_lt (Sto.get_lt e5)]; exact e5
  have e6 : s6.get s5.size = some (.lst (g2.map fnD)) := by rw [← hs6]; exact Sto.get_push_new
  rw [add_rr, e56, e6]
  simp only
  rw [if_pos (by rw [List.length_map, List.length_map]; omega), ← List.map_append]
  refine ok_some.mpr ?_
  rw [tuple_r, seq_get Sto.get_push_new]
  refine ok_some.mpr (ok_nil.mpr ⟨by show 2 ≤ SZ; decide, hG _ (g1 ++ g2) (fun f hf => ?_) (by rw [List.length_append]; omega)⟩)
  rcases List.mem_append.mp hf with hf | hf
  · exact h3.fo f (m1 f hf)
  · exact h3.fo f (m2 f hf)
end
end Mw
/-! The middle, whole. -/
namespace Mw
open PySem PySem.Spec PyProof.Rows L2 Dn
section
variable {P Cl : Nat} {cells : List Int} {st : Sto} {k : Nat}
variable {T F : Nat} {calls : List (Str × Int × Int)} {fs : List (Str × List Blk)} {s : Sto}
def midC (c : Nat → FnD) : SM := (seqS (forS (enumI (varF 4)) (tupG 2 (consG (nameG 8) (consG (nameG 9) (nilG)))) (seqS (setS 10 (tupF (consF (opF getD (varF 9) (cF (.int 0))) (consF (opF getD (varF 9) (cF (.int 1))) (consF (opF getD (lstF (consF (cF (.int 85)) (consF (cF (.int 24)) nilF))) (opF fdivD (unF lenD (varF 4)) (cF (.int 7)))) nilF)))))
  (exprS (methF isL appendD (varF 7) (consF (callF 5 (c 22) (consF (varF 0) (consF (varF 10) (consF (slF (varF 4) (noF) (soF (opF addD (varF 8) (callF 2 (c 11) (consF (varF 0) (consF (cF (.int 2)) nilF)))))) (consF (opF fdivD (varF 1) (unF lenD (varF 4))) (consF (varF 3) nilF)))))) nilF)))))
  (midD c))
theorem midC_ok {fi : List Kd} {bu : Int} {a2 a5 a6 : Option D} (h : MidS P Cl cells T F calls [] st) (hfi : (∀ k ∈ fi, k = .num ∨ k = .tru) ∧ fi.length ≤ 8) {G : D → Sto → Prop} (hG : ∀ s fs, (∀ f ∈ fs, FOk f.2) → fs.length ≤ 16 → G (midR fi fs) s) :
    OkS (midC (Hd.runs (k + 13)) [some (.ref P), some (.int bu), a2, some (.tup (fi.map Kd.d)), some (.ref T), a5, a6, some (.ref F), none, none, none, none] st) (fun r => match r with
    | .rt d s => G d s
    | .nx _ s => G .non s
    | _ => False) := by
  have hs : SZ = 16777216 := by decide
  unfold midC
  have cl := h.cl
  have clm : (calls.map cD).length = 2 ∨ (calls.map cD).length = 7 := by rw [List.length_map]; exact cl
  have gl : ∀ {s : Sto} {xs : List D}, s.get T = some (.lst xs) → enumI (varF 4) [some (.ref P), some (.int bu), a2, some (.tup (fi.map Kd.d)), some (.ref T), a5, a6, some (.ref F), none, none, none, none] s = some (.enL T, s) := fun {s xs} e => by
    show (s.seq T).map (fun xs => (Src.enL T, s)) = _
    rw [seq_get e]; rfl
  have cnt : countD (.enL T) st = some ((calls.zipIdx.map fun p => D.tup [.int (p.2 : Nat), cD p.1])).length := by
    show (st.seq T).map List.length = _
    rw [seq_get h.Te]
    simp
  have zl : (calls.zipIdx.map fun p => D.tup [.int (p.2 : Nat), cD p.1]).length = calls.length := by simp
  refine seq_for (oks_for ⟨.enL T, st, gl h.Te, calls.zipIdx.map (fun p => .tup [.int (p.2 : Nat), cD p.1]), fun i e s => ∃ a8 a9 a10 fs, e = [some (.ref P), some (.int bu), a2, some (.tup (fi.map Kd.d)), some (.ref T), a5, a6, some (.ref F), a8, a9, a10, none] ∧ fs.length = i ∧ MidS P Cl cells T F calls fs s, cnt, ⟨none, none, none, [], rfl, rfl, h⟩, ?_, ?_⟩)
  · rintro i e s d hd ⟨a8, a9, a10, fs, rfl, hl, h⟩
    rw [List.getElem?_map, List.getElem?_zipIdx] at hd
    obtain ⟨p, hp, rfl⟩ := mapS hd
    obtain ⟨x, hx, rfl⟩ := mapS hp
    have hil := (List.getElem?_eq_some_iff.mp hx).1
    have hxo := h.co x (List.mem_of_getElem? hx)
    simp only [Nat.zero_add] at hd ⊢
    refine ⟨?_, _, s, rfl, ?_⟩
    · show (s.seq T).map (fun xs => (xs[i]?).map fun x => D.tup [.int (i : Nat), x]) = _
      rw [seq_get h.Te]
      show some (((calls.map cD)[i]?).map _) = _
      rw [List.getElem?_map, hx]
      rfl
    show OkS (seqS _ _ [some (.ref P), some (.int bu), a2, some (.tup (fi.map Kd.d)), some (.ref T), a5, a6, some (.ref F), some (.int i), some (cD x), a10, none] s) _
    refine seq_set.mpr (ok_tup.mpr (ok_cons.mpr ⟨.str x.1, s, rfl, ok_cons.mpr ⟨.int x.2.1, s, rfl, ok_cons.mpr (mo_ok (T := T) (fun s => rfl) h.Te clm fun s2 mo f2 => ok_nil.mpr ⟨by show 3 ≤ SZ; decide, ?_⟩)⟩⟩))
    have h2 := h.fm0 f2
    show OkS (exprS _ [some (.ref P), some (.int bu), a2, some (.tup (fi.map Kd.d)), some (.ref T), a5, a6, some (.ref F), some (.int i), some (cD x), some (.tup [.str x.1, .int x.2.1, .int mo]), none] s2) _
    refine addfn_ok (k := k) h2 (by omega) hfi ⟨by omega, by omega⟩ rfl ?_ fun s3 b fb h3 => ⟨_, _, _, fs ++ [b], rfl, by rw [List.length_append]; show fs.length + 1 = i + 1; omega, h3⟩
    refine ok_slr ⟨.ref T, s2, rfl, T, rfl, ok_no.mpr (ok_so (ok_op.mpr ⟨.int i, s2, rfl, ok_call.mpr (ok_cons.mpr ⟨_, s2, rfl, ok_cons.mpr ⟨_, s2, rfl, ok_nil.mpr ⟨rfl, takeP (k := k + 11) h2.pot (by decide) (by decide) fun s4 t t0 t1 P4 f4 => ?_⟩⟩⟩)⟩))⟩
    rw [add_ii]
    have h4 := h2.fm f4 P4
    obtain ⟨g1, c1, m1, l1⟩ := cut_map cD calls none (some ((i : Int) + t))
    refine ok_some.mpr ⟨_, rfl, _, h4.Te, ?_⟩
    rw [c1]
    generalize hs5 : s4.push (.lst (g1.map cD)) = s5
    have f5 : Fm [] s4 s5 := by rw [← hs5]; exact Fm.push
    have e5 : s5.get s4.size = some (.lst (g1.map cD)) := by rw [← hs5]; exact Sto.get_push_new
    have h5 := h4.fm0 f5
    obtain ⟨a, l, m, mx, _, _, _, _, q1⟩ := id h4.pot
    have hPl := Sto.get_lt q1
    refine ⟨s4.size, g1, rfl, e5, by omega, fun y hy => h4.co y (m1 y hy), by omega, h5, bu.fdiv (calls.length : Nat), ?_⟩
    show (lenD (.ref T) s5).bind (fun q => fdivD (.int bu) q.1 q.2) = _
    rw [len_r, h5.Te]
    simp only [Option.bind_some, List.length_map]
    rw [fdiv_ii, if_pos ⟨by omega, by omega⟩]
  · rintro e s ⟨a8, a9, a10, fs, rfl, hl, h⟩
    rw [zl] at hl ⊢
    refine ⟨?_, midD_ok (k := k) h (by omega) hfi hG⟩
    show (s.seq T).map (fun xs => (xs[calls.length]?).map fun x => D.tup [.int (calls.length : Nat), x]) = _
    rw [seq_get h.Te]
    show some (((calls.map cD)[calls.length]?).map _) = _
    rw [List.getElem?_map, List.getElem?_eq_none (Nat.le_refl _)]
    rfl
def midB (c : Nat → FnD) : SM := (seqS (setS 4 (lstF (nilF)))
  (seqS (forS (seqI (varF 2)) (nameG 5) (seqS (setS 6 (opF getD (lstF (consF (cF (.int 1)) (consF (cF (.int 2)) (consF (cF (.int 3)) (consF (cF (.int 4)) (consF (cF (.int 5)) (consF (cF (.int 8)) (consF (cF (.int 9)) nilF)))))))) (callF 2 (c 11) (consF (varF 0) (consF (cF (.int 7)) nilF)))))
  (exprS (methF isL appendD (varF 4) (consF (tupF (consF (varF 5) (consF (varF 6) (consF (callF 2 (c 11) (consF (varF 0) (consF (opF addD (varF 6) (cF (.int 1))) nilF))) nilF)))) nilF)))))
  (seqS (setS 7 (lstF (nilF)))
  (midC c))))
theorem midB_ok {fi : List Kd} {names : List Str} {bu : Int} {N : Nat} (hP : PotAt P Cl cells st) (hN : st.get N = some (.lst (names.map .str))) (hNP : N ≠ P) (hn : names.length = 2 ∨ names.length = 7) (hfi : (∀ k ∈ fi, k = .num ∨ k = .tru) ∧ fi.length ≤ 8) {G : D → Sto → Prop} (hG : ∀ s fs, (∀ f ∈ fs, FOk f.2) → fs.length ≤ 16 → G (midR fi fs) s) :
    OkS (midB (Hd.runs (k + 13)) [some (.ref P), some (.int bu), some (.ref N), some (.tup (fi.map Kd.d)), none, none, none, none, none, none, none, none] st) (fun r => match r with
    | .rt d s => G d s
    | .nx _ s => G .non s
    | _ => False) := by
  have hs : SZ = 16777216 := by decide
  unfold midB
  refine seq_set.mpr (ok_lst.mpr (ok_nil.mpr ⟨by decide, ?_⟩))
  generalize hs1 : st.push (.lst []) = s1
  have f1 : Fm [] st s1 := by rw [← hs1]; exact Fm.push
  have e1 : s1.get st.size = some (.lst []) := by rw [← hs1]; exact Sto.get_push_new
  have P1 := hP.fm0 f1
  have N1 := f1.keep hN (by simp)
  obtain ⟨a, l, m, mx, q1, _, _, _, q2⟩ := id hP
  have hPl := Sto.get_lt q1
  have hCl := Sto.get_lt q2
  have hNl := Sto.get_lt hN
  generalize hT : st.size = T at *
  show OkS (seqS _ _ [some (.ref P), some (.int bu), some (.ref N), some (.tup (fi.map Kd.d)), some (.ref T), none, none, none, none, none, none, none] s1) _
  refine seq_for (oks_for ⟨.lst N, s1, ?_, names.map .str, fun i e s => ∃ a5 a6 calls, e = [some (.ref P), some (.int bu), some (.ref N), some (.tup (fi.map Kd.d)), some (.ref T), a5, a6, none, none, none, none, none] ∧ calls.length = i ∧ CallOk calls ∧ s.get T = some (.lst (calls.map cD)) ∧ PotAt P Cl cells s ∧ s.get N = some (.lst (names.map .str)), (thru_lst N1).2, ⟨none, none, [], rfl, rfl, (by simp), e1, P1, N1⟩, ?_, ?_⟩)
  · show (s1.seq N).map (fun xs => (Src.lst N, s1)) = _
    rw [seq_get N1]; rfl
  · rintro i e s d hd ⟨a5, a6, calls, rfl, hl, hco, hT, hP, hN⟩
    have hil := (List.getElem?_eq_some_iff.mp hd).1
    rw [List.length_map] at hil
    have hd2 := hd
    rw [List.getElem?_map] at hd2
    obtain ⟨x, hx, rfl⟩ := mapS hd2
    refine ⟨?_, _, s, rfl, ?_⟩
    · show (s.seq N).map (fun xs => xs[i]?) = _
      rw [seq_get hN]
      exact congrArg some hd
    show OkS (seqS _ _ [some (.ref P), some (.int bu), some (.ref N), some (.tup (fi.map Kd.d)), some (.ref T), some (.str x), a6, none, none, none, none, none] s) _
    refine seq_set.mpr (pick_ok (k := k + 11) (is := [1, 2, 3, 4, 5, 8, 9]) (fun s => rfl) rfl (by decide) hP fun s2 v hv P2 f2 => ?_)
    have T2 := f2.keep hT (by simp only [List.mem_cons, List.not_mem_nil, or_false]; omega)
    have N2 := f2.keep hN (by simp only [List.mem_cons, List.not_mem_nil, or_false]; exact hNP)
    have hv2 : 1 ≤ v ∧ v ≤ 9 := by
      simp only [List.mem_cons, List.not_mem_nil, or_false] at hv
      omega
    show OkS (exprS _ [some (.ref P), some (.int bu), some (.ref N), some (.tup (fi.map Kd.d)), some (.ref T), some (.str x), some (.int v), none, none, none, none, none] s2) _
    refine oks_expr.mpr (ok_meth.mpr ⟨.ref T, s2, rfl, isL_of T2, ok_cons.mpr (ok_tup.mpr (ok_cons.mpr ⟨.str x, s2, rfl, ok_cons.mpr ⟨.int v, s2, rfl, ok_cons.mpr (ok_call.mpr (ok_cons.mpr ⟨_, s2, rfl, ok_cons.mpr ⟨.int (v + 1), s2, rfl, ok_nil.mpr ⟨rfl, takeP (k := k + 11) P2 (by omega) (by omega) fun s3 t t0 t1 P3 f3 => ok_nil.mpr ⟨by show 3 ≤ SZ; decide, ok_nil.mpr ?_⟩⟩⟩⟩))⟩⟩))⟩)
    have T3 := f3.keep T2 (by simp only [List.mem_cons, List.not_mem_nil, or_false]; omega)
    have N3 := f3.keep N2 (by simp only [List.mem_cons, List.not_mem_nil, or_false]; exact hNP)
    rw [append_r, T3]
    simp only
    rw [if_pos (by rw [List.length_map]; omega)]
    refine ok_some.mpr ⟨_, _, calls ++ [(x, v, t)], rfl, by rw [List.length_append]; show calls.length + 1 = i + 1; omega, fun y hy => ?_, ?_, P3.of (Sto.get_set_ne (by omega)) (Sto.get_set_ne (by omega)), (Sto.get_set_ne (by omega)).trans N3⟩
    · rcases List.mem_append.mp hy with hy | hy
      · exact hco y hy
      · rw [List.mem_singleton.mp hy]
        exact ⟨hv2.1, hv2.2, t0, (by show t ≤ v; omega)⟩
    · rw [Sto.get_set_same (Sto.get_lt T3), List.map_append]
      rfl
  · rintro e s ⟨a5, a6, calls, rfl, hl, hco, hT', hP', hN'⟩
    rw [List.length_map] at hl ⊢
    refine ⟨?_, ?_⟩
    · show (s.seq N).map (fun xs => xs[names.length]?) = _
      rw [seq_get hN']
      show some ((names.map D.str)[names.length]?) = _
      rw [List.getElem?_eq_none (by rw [List.length_map]; exact Nat.le_refl _)]
    show OkS (seqS _ _ [some (.ref P), some (.int bu), some (.ref N), some (.tup (fi.map Kd.d)), some (.ref T), a5, a6, none, none, none, none, none] s) _
    refine seq_set.mpr (ok_lst.mpr (ok_nil.mpr ⟨by decide, ?_⟩))
    generalize hs2 : s.push (.lst []) = s2
    have f2 : Fm [] s s2 := by rw [← hs2]; exact Fm.push
    have e2 : s2.get s.size = some (.lst []) := by rw [← hs2]; exact Sto.get_push_new
    have lt := Sto.get_lt hT'
    obtain ⟨a, l, m, mx, q1, _, _, _, q2⟩ := id hP'
    have hPl' := Sto.get_lt q1
    have hCl' := Sto.get_lt q2
    exact midC_ok (k := k) (T := T) (F := s.size) (calls := calls) ⟨hP'.fm0 f2, f2.keep hT' (by simp), e2, ⟨by omega, by omega, by omega, by omega, by omega⟩, by simp, by simp, hco, by omega⟩ hfi hG
theorem middle_ok (hP : PotAt P Cl cells st) {G : D → Sto → Prop} (hG : ∀ s fi fs, (∀ f ∈ fs, FOk f.2) → fs.length ≤ 16 → G (midR fi fs) s) : Ok (Hd.runs (k + 14) 23 [.ref P] st) G := by
  show Ok (bodyD _ (Hd.b__law_middle (Hd.runs (k + 13))) _ st) G
  refine ok_body ?_
  unfold Hd.b__law_middle
  have hs : SZ = 16777216 := by decide
  obtain ⟨a, l, m, mx, q1, _, _, _, q2⟩ := id hP
  have hPl := Sto.get_lt q1
  have hCl := Sto.get_lt q2
  show OkS (seqS _ _ [some (.ref P), none, none, none, none, none, none, none, none, none, none, none] st) _
  refine seq_set.mpr ?_
  have hb : Ok (opF addD (cF (.int 1)) (opF minD (cF (.int 5)) (opF fdivD (unF lenD (opF getD (varF 0) (cF (.str "cells")))) (cF (.int 5)))) [some (.ref P), none, none, none, none, none, none, none, none, none, none, none] st) fun d s => s = st ∧ ∃ bu : Int, d = .int bu := by
    have c5 : ∀ i, CDivN i 5 := fun i => ⟨by decide, by decide⟩
    simp only [List.map_cons, List.map_nil, List.length_cons, List.length_nil, List.cons_append, List.nil_append, List.replicate, List.set_cons_zero, List.set_cons_succ, ok_op, ok_un, ok_c, ok_nil, ok_cons, ok_tup, ok_lst, ok_var0, ok_varS, ok_call, ok_tst, ok_and, ok_or, ok_not, ok_meth, ok_bind, ok_some, ok_ite, ok_mapv, add_ii, add_tt, add_rr, sub_ii, mul_ii, mul_ti, mul_ri, mod_ii, fdiv_ii, pow_ii, lt_ii, get_ti, get_ri, get_rs, len_t, len_r, abs_i, int_b, list_t, list_r, tuple_t, tuple_r, dict_r, is_n, in_t, in_r, addI_ii, subI_ii, min_ii, append_r, key_i, key_s, eq_int, D.bl.injEq, exists_eq_left, exists_eq_left', exists_eq_right, exists_eq_right', exists_eq', Option.some.injEq, decide_eq_true_eq, decide_eq_false_iff_not, Bool.false_eq_true, if_false, if_true, reduceCtorEq, false_implies, true_implies, true_and, and_true, forall_const, imp_self, Bool.not_true, Bool.not_false, Bool.not_eq_true', Bool.not_eq_false', not_true_eq_false, not_false_eq_true, not_true_eq_false, not_false_eq_true, at_lit0, at_lit1, at_lit2, at_lit3, at_lit4, at_lit5, List.length_replicate, q1, q2, potD_cells, c5]
    exact ⟨_, rfl⟩
  refine hb.imp ?_
  rintro d s ⟨rfl, bu, rfl⟩
  show OkS (seqS _ _ [some (.ref P), some (.int bu), none, none, none, none, none, none, none, none, none, none] s) _
  -- the names
  refine seq_set.mpr (ok_slr (ok_lst.mpr ⟨[.str "leaf", .str "stem", .str "bud", .str "twig", .str "root", .str "bark", .str "seed"], s, rfl, by show 7 ≤ SZ; decide, _, rfl, ok_no.mpr (ok_so ?_)⟩))
  generalize hs1 : s.push (.lst [.str "leaf", .str "stem", .str "bud", .str "twig", .str "root", .str "bark", .str "seed"]) = s1
  have f1 : Fm [] s s1 := by rw [← hs1]; exact Fm.push
  have e1 : s1.get s.size = some (.lst [.str "leaf", .str "stem", .str "bud", .str "twig", .str "root", .str "bark", .str "seed"]) := by rw [← hs1]; exact Sto.get_push_new
  have P1 := hP.fm0 f1
  refine pick_ok (k := k + 11) (is := [2, 2, 2, 7]) (fun s => rfl) rfl (by decide) P1 fun s2 v hv P2 f2 => ⟨v, rfl, _, f2.keep e1 (by simp only [List.mem_cons, List.not_mem_nil, or_false]; omega), ?_⟩
  have hnm : ∃ names : List Str, Dn.cutD [.str "leaf", .str "stem", .str "bud", .str "twig", .str "root", .str "bark", .str "seed"] none (some v) = names.map .str ∧ (names.length = 2 ∨ names.length = 7) := by
    have : v = 2 ∨ v = 7 := by
      simp only [List.mem_cons, List.not_mem_nil, or_false] at hv
      omega
    rcases this with rfl | rfl
    · exact ⟨["leaf", "stem"], rfl, .inl rfl⟩
    · exact ⟨["leaf", "stem", "bud", "twig", "root", "bark", "seed"], rfl, .inr rfl⟩
  obtain ⟨names, en, ln⟩ := hnm
  rw [en]
  generalize hs3 : s2.push (.lst (names.map .str)) = s3
  have f3 : Fm [] s2 s3 := by rw [← hs3]; exact Fm.push
  have e3 : s3.get s2.size = some (.lst (names.map .str)) := by rw [← hs3]; exact Sto.get_push_new
  have P3 := P2.fm0 f3
  have f03 := (f1.p0.tp f2).le
  generalize hN : s2.size = N at *
  show OkS (seqS _ _ [some (.ref P), some (.int bu), some (.ref N), none, none, none, none, none, none, none, none, none] s3) _
  -- the fields
  refine seq_set.mpr (ok_un.mpr (ok_lci (oki_rng1 (pick_ok (k := k + 11) (is := [2, 3, 8]) (fun s => rfl) rfl (by decide) P3 fun s4 v4 hv4 P4 f4 => ⟨v4, rfl, ?_, ?_, ?_⟩))))
  · simp only [List.mem_cons, List.not_mem_nil, or_false] at hv4; omega
  · simp only [List.mem_cons, List.not_mem_nil, or_false] at hv4; omega
  have hv8 : v4.toNat ≤ 8 := by simp only [List.mem_cons, List.not_mem_nil, or_false] at hv4; omega
  have e4 := f4.keep e3 (by simp only [List.mem_cons, List.not_mem_nil, or_false]; omega)
  refine ⟨(List.range v4.toNat).map fun i => .int (0 + (i : Nat)), fun i acc s => ∃ fi : List Kd, acc = fi.map Kd.d ∧ fi.length = i ∧ (∀ k ∈ fi, k = .num ∨ k = .tru) ∧ s.get s4.size = some (.lst acc) ∧ Fm [] s4 s, pure_rng.2 s4, ⟨[], rfl, rfl, by simp, Sto.get_push_new, Fm.push⟩, ?_, ?_⟩
  · rintro i acc s5 d hd ⟨fi, rfl, hl, hk, g5, f5⟩
    have hi := (List.getElem?_eq_some_iff.mp hd).1
    rw [List.length_map, List.length_range] at hi
    rw [List.getElem?_map, List.getElem?_range hi] at hd
    cases hd
    refine ⟨by rw [pure_rng.1, List.getElem?_map, List.getElem?_range hi]; rfl, _, rfl, ok_some.mpr ⟨fun _ => ?_, fun q => by cases q⟩⟩
    have z1 : 0 + 1 ≤ SZ := by decide
    have z2 : 0 + 1 + 1 ≤ SZ := by decide
    simp only [List.map_cons, List.map_nil, List.length_cons, List.length_nil, List.cons_append, List.nil_append, List.replicate, List.set_cons_zero, List.set_cons_succ, ok_op, ok_un, ok_c, ok_nil, ok_cons, ok_tup, ok_lst, ok_var0, ok_varS, ok_call, ok_tst, ok_and, ok_or, ok_not, ok_meth, ok_bind, ok_some, ok_ite, ok_mapv, add_ii, add_tt, add_rr, sub_ii, mul_ii, mul_ti, mul_ri, mod_ii, fdiv_ii, pow_ii, lt_ii, get_ti, get_ri, get_rs, len_t, len_r, abs_i, int_b, list_t, list_r, tuple_t, tuple_r, dict_r, is_n, in_t, in_r, addI_ii, subI_ii, min_ii, append_r, key_i, key_s, eq_int, D.bl.injEq, exists_eq_left, exists_eq_left', exists_eq_right, exists_eq_right', exists_eq', Option.some.injEq, decide_eq_true_eq, decide_eq_false_iff_not, Bool.false_eq_true, if_false, if_true, reduceCtorEq, false_implies, true_implies, true_and, and_true, forall_const, imp_self, Bool.not_true, Bool.not_false, Bool.not_eq_true', Bool.not_eq_false', not_true_eq_false, not_false_eq_true, not_true_eq_false, not_false_eq_true, at_lit0, at_lit1, at_lit2, at_lit3, at_lit4, at_lit5, List.length_replicate, wipeE, z1, z2]
    generalize hs6 : s5.push (.lst [.tup [.str "number"], .tup [.str "truth"]]) = s6
    have f6 : Fm [] s5 s6 := by rw [← hs6]; exact Fm.push
    have e6 : s6.get s5.size = some (.lst [.tup [.str "number"], .tup [.str "truth"]]) := by rw [← hs6]; exact Sto.get_push_new
    rw [e6]
    have g6 := f6.keep g5 (by simp)
    have md : 0 ≤ (0 + (i : Int)).fmod 2 ∧ (0 + (i : Int)).fmod 2 < 2 := ⟨Int.fmod_nonneg_of_pos _ (by decide), Int.fmod_lt_of_pos _ (by decide)⟩
    have fin : ∀ kd : Kd, kd = .num ∨ kd = .tru → s6.get s4.size = some (.lst (fi.map Kd.d)) ∧ (fi.map Kd.d).length < SZ ∧ ∃ fi' : List Kd, fi.map Kd.d ++ [kd.d] = fi'.map Kd.d ∧ fi'.length = i + 1 ∧ (∀ k ∈ fi', k = .num ∨ k = .tru) ∧ (s6.set s4.size (.lst (fi.map Kd.d ++ [kd.d]))).get s4.size = some (.lst (fi.map Kd.d ++ [kd.d])) ∧ Fm [] s4 (s6.set s4.size (.lst (fi.map Kd.d ++ [kd.d]))) := fun kd hkd => by
      refine ⟨g6, by rw [List.length_map]; omega, fi ++ [kd], by rw [List.map_append]; rfl, by rw [List.length_append]; show fi.length + 1 = i + 1; omega, fun k hk' => ?_, Sto.get_set_same (Sto.get_lt g6), ?_⟩
      · rcases List.mem_append.mp hk' with q | q
        · exact hk k q
        · rw [List.mem_singleton.mp q]; exact hkd
      · exact (f5.trans f6 fun i q => by cases q).trans (Fm.set (W := [s4.size]) (.inl (by simp))) fun i q => .inr (by
          rw [List.mem_singleton.mp q]; exact Nat.le_refl _)
    have two : (0 + (i : Int)).fmod 2 = 0 ∨ (0 + (i : Int)).fmod 2 = 1 := by omega
    rcases two with e | e <;> rw [e]
    · simp only [List.map_cons, List.map_nil, List.length_cons, List.length_nil, List.cons_append, List.nil_append, List.replicate, List.set_cons_zero, List.set_cons_succ, ok_op, ok_un, ok_c, ok_nil, ok_cons, ok_tup, ok_lst, ok_var0, ok_varS, ok_call, ok_tst, ok_and, ok_or, ok_not, ok_meth, ok_bind, ok_some, ok_ite, ok_mapv, add_ii, add_tt, add_rr, sub_ii, mul_ii, mul_ti, mul_ri, mod_ii, fdiv_ii, pow_ii, lt_ii, get_ti, get_ri, get_rs, len_t, len_r, abs_i, int_b, list_t, list_r, tuple_t, tuple_r, dict_r, is_n, in_t, in_r, addI_ii, subI_ii, min_ii, append_r, key_i, key_s, eq_int, D.bl.injEq, exists_eq_left, exists_eq_left', exists_eq_right, exists_eq_right', exists_eq', Option.some.injEq, decide_eq_true_eq, decide_eq_false_iff_not, Bool.false_eq_true, if_false, if_true, reduceCtorEq, false_implies, true_implies, true_and, and_true, forall_const, imp_self, Bool.not_true, Bool.not_false, Bool.not_eq_true', Bool.not_eq_false', not_true_eq_false, not_false_eq_true, not_true_eq_false, not_false_eq_true, at_lit0, at_lit1, at_lit2, at_lit3, at_lit4, at_lit5, List.length_replicate]
      exact ⟨by decide, fin .num (.inl rfl)⟩
    · simp only [List.map_cons, List.map_nil, List.length_cons, List.length_nil, List.cons_append, List.nil_append, List.replicate, List.set_cons_zero, List.set_cons_succ, ok_op, ok_un, ok_c, ok_nil, ok_cons, ok_tup, ok_lst, ok_var0, ok_varS, ok_call, ok_tst, ok_and, ok_or, ok_not, ok_meth, ok_bind, ok_some, ok_ite, ok_mapv, add_ii, add_tt, add_rr, sub_ii, mul_ii, mul_ti, mul_ri, mod_ii, fdiv_ii, pow_ii, lt_ii, get_ti, get_ri, get_rs, len_t, len_r, abs_i, int_b, list_t, list_r, tuple_t, tuple_r, dict_r, is_n, in_t, in_r, addI_ii, subI_ii, min_ii, append_r, key_i, key_s, eq_int, D.bl.injEq, exists_eq_left, exists_eq_left', exists_eq_right, exists_eq_right', exists_eq', Option.some.injEq, decide_eq_true_eq, decide_eq_false_iff_not, Bool.false_eq_true, if_false, if_true, reduceCtorEq, false_implies, true_implies, true_and, and_true, forall_const, imp_self, Bool.not_true, Bool.not_false, Bool.not_eq_true', Bool.not_eq_false', not_true_eq_false, not_false_eq_true, not_true_eq_false, not_false_eq_true, at_lit0, at_lit1, at_lit2, at_lit3, at_lit4, at_lit5, List.length_replicate]
      exact ⟨by decide, fin .tru (.inr rfl)⟩
  · rintro acc s5 ⟨fi, rfl, hl, hk, g5, f5⟩
    rw [List.length_map, List.length_range] at hl ⊢
    refine ⟨by rw [pure_rng.1]; simp, ?_⟩
    rw [tuple_r, seq_get g5]
    refine ok_some.mpr (midB_ok (k := k) (N := N) (names := names) (bu := bu) (P4.fm0 f5) (f5.keep e4 (by simp)) (by omega) ln ⟨hk, by omega⟩ fun s fs h1 h2 => hG s fi fs h1 h2)
end
end Mw
/-! The middle renamed. -/
namespace Mw
open PySem PySem.Spec PyProof.Rows L2 Dn
section
variable {ε : Type} {enc : ε → D} {fi : Dn.Env → Sto → Option (Src × Sto)} {g : GM} {tt : M Bool} {te : M D} {vs : List Nat} {env : Dn.Env} {st : Sto} {Q : D → Sto → Prop}
theorem Fm.nil {s s1 s2 : Sto} (a : Fm [] s s1) (b : Fm [] s1 s2) : Fm [] s s2 := a.trans b fun i q => by cases q
/-- each told to something, which stays -/
theorem ok_lcr {Rel : Nat → ε → D → Sto → Prop} (mono : ∀ L d z s s', Rel L d z s → Fm [L] s s' → Rel L d z s')
    (h : Ok (fi env st) fun src s1 => ∃ xs : List ε, Thru src s1.size s1 (xs.map enc) ∧ xs.length ≤ SZ ∧
      (∀ d ∈ xs, ∀ s, Fm [] s1 s → s1.size < s.size → ∃ e1, g (enc d) (wipeE env vs) s = some (e1, s) ∧ tt e1 s = some (true, s) ∧ Ok (te e1 s) fun z s' => Rel s1.size d z s' ∧ Fm [] s s') ∧
      ∀ s zs, s.get s1.size = some (.lst zs) → Fm [] s1 s → zs.length = xs.length → (∀ (i : Nat) d z, xs[i]? = some d → zs[i]? = some z → Rel s1.size d z s) → Q (.ref s1.size) s) : Ok (lcF fi g tt te vs env st) Q := by
  refine ok_lci (h.imp fun src s1 ⟨xs, ht, hz, hs, hq⟩ => ⟨xs.map enc, fun i acc s => acc.length = i ∧ s.get s1.size = some (.lst acc) ∧ Fm [] s1 s ∧ ∀ (j : Nat) d z, xs[j]? = some d → acc[j]? = some z → Rel s1.size d z s, ht.2, ⟨rfl, Sto.get_push_new, Fm.push, fun j d z _ q => by simp at q⟩, ?_, ?_⟩)
  · rintro i acc s d' hd' ⟨hl, ha, hf, hr⟩
    have hd'' := hd'
    rw [List.getElem?_map] at hd''
    obtain ⟨d, hd, rfl⟩ := mapS hd''
    have hag : ∀ i : Nat, i < s1.size → s.get i = s1.get i := fun i hi => hf.get i hi (by simp)
    have hi := (List.getElem?_eq_some_iff.mp hd).1
    obtain ⟨e1, hg, et, he⟩ := hs d (List.mem_of_getElem? hd) s hf (Sto.get_lt ha)
    refine ⟨by rw [ht.1 s hag i, hd'], e1, hg, true, s, et, fun _ => he.imp fun z s3 ⟨hz3, f3⟩ => ?_, fun q => by cases q⟩
    have ha3 := f3.keep ha (by simp)
    have f4 : Fm [s1.size] s3 (s3.set s1.size (.lst (acc ++ [z]))) := Fm.set (.inl (by simp))
    have f34 : Fm [s1.size] s (s3.set s1.size (.lst (acc ++ [z]))) := (f3.mono (fun i q => by cases q)).trans f4 fun i q => .inl q
    refine ⟨ha3, by omega, by rw [List.length_append]; show acc.length + 1 = i + 1; omega, Sto.get_set_same (Sto.get_lt ha3), (hf.nil f3).trans f4 fun j q => .inr (by rw [List.mem_singleton.mp q]; exact Nat.le_refl _), fun j d2 z2 h1 h2 => ?_⟩
    rcases Nat.lt_or_ge j acc.length with hj | hj
    · rw [List.getElem?_append_left hj] at h2
      exact mono _ _ _ _ _ (hr j d2 z2 h1 h2) f34
    · rw [List.getElem?_append_right hj] at h2
      have : j - acc.length = 0 := by
        rcases Nat.eq_zero_or_pos (j - acc.length) with q | q
        · exact q
        · rw [List.getElem?_eq_none (by show 1 ≤ j - acc.length; exact q)] at h2
          cases h2
      rw [this] at h2
      have hji : j = i := by omega
      subst hji
      rw [hd] at h1
      cases h1
      cases h2
      exact mono _ _ _ _ _ hz3 f4
  · rintro acc s ⟨hl, ha, hf, hr⟩
    rw [List.length_map] at hl ⊢
    refine ⟨?_, hq s acc ha hf hl hr⟩
    rw [ht.1 s (fun i hi => hf.get i hi (by simp))]
    simp
theorem ok_lcm {y : ε → D} (h : Ok (fi env st) fun src s1 => ∃ xs : List ε, Thru src s1.size s1 (xs.map enc) ∧ xs.length ≤ SZ ∧
      (∀ d ∈ xs, ∀ s, Fm [] s1 s → s1.size < s.size → ∃ e1, g (enc d) (wipeE env vs) s = some (e1, s) ∧ tt e1 s = some (true, s) ∧ Ok (te e1 s) fun z s' => z = y d ∧ Fm [] s s') ∧
      ∀ s, s.get s1.size = some (.lst (xs.map y)) → Fm [] s1 s → Q (.ref s1.size) s) : Ok (lcF fi g tt te vs env st) Q :=
  ok_lcr (Rel := fun _ d z _ => z = y d) (fun _ _ _ _ _ q _ => q) (h.imp fun src s1 ⟨xs, ht, hz, hs, hq⟩ => ⟨xs, ht, hz, hs, fun s zs h1 h2 h3 h4 => hq s (by
    have : zs = xs.map y := by
      refine List.ext_getElem? fun i => ?_
      rw [List.getElem?_map]
      rcases Nat.lt_or_ge i xs.length with hi | hi
      · have hi2 : i < zs.length := by omega
        rw [List.getElem?_eq_getElem hi, List.getElem?_eq_getElem hi2]
        exact congrArg some (h4 i _ _ (List.getElem?_eq_getElem hi) (List.getElem?_eq_getElem hi2))
      · rw [List.getElem?_eq_none hi, List.getElem?_eq_none (by omega)]
        rfl
    rw [← this]; exact h1) h2⟩)
end
def ren (w x : Int) : Int := if w = 0 then x else if w = 1 then 7 * x + 3 else 1000000000 - x
theorem ren_inj {w x y : Int} (h : ren w x = ren w y) : x = y := by
  unfold ren at h
  split at h
  · exact h
  · split at h <;> omega
def Rw.ren (w : Int) (r : Rw) : Rw := { r with x := r.x.map (Mw.ren w), args := r.args.map (Mw.ren w) }
def En.ren (w : Int) : En → En
  | .jump g as => .jump g (as.map (Mw.ren w))
  | .branch x y n => .branch (Mw.ren w x) y n
  | .give x => .give (Mw.ren w x)
  | .fail l => .fail l
def Blk.ren (w : Int) (b : Blk) : Blk := ⟨b.pr.map fun p => (Mw.ren w p.1, p.2), b.rows.map (Rw.ren w), b.en.ren w⟩
section
variable {st : Sto} {k : Nat} {w : Int}
theorem other_ok {x : Option Int} (hw : 0 ≤ w ∧ w < 3) : Ok (Hd.runs (k + 1) 24 [oI x, .int w] st) fun d s => d = oI (x.map (ren w)) ∧ Fm [] st s := by
  show Ok (bodyD _ (Hd.b__law_other (Hd.runs k)) _ st) _
  refine ok_body ?_
  unfold Hd.b__law_other
  show OkS (seqS _ _ [some (oI x), some (.int w)] st) _
  cases x with
  | none =>
    simp only [List.map_cons, List.map_nil, List.length_cons, List.length_nil, List.cons_append, List.nil_append, List.replicate, List.set_cons_zero, List.set_cons_succ, seq_set, seq_ret, seq_expr, seq_next, seq_if, seq_asg, seq_seq, seq_cnt, oks_set, oks_ret, oks_expr, oks_next, oks_cnt, oks_if', oks_asg, ok_op, ok_un, ok_c, ok_nil, ok_cons, ok_tup, ok_lst, ok_var0, ok_varS, ok_call, ok_tst, ok_and, ok_or, ok_not, ok_meth, ok_bind, ok_some, ok_ite, ok_mapv, add_ii, add_tt, add_rr, sub_ii, mul_ii, mul_ti, mul_ri, mod_ii, fdiv_ii, pow_ii, lt_ii, get_ti, get_ri, get_rs, len_t, len_r, abs_i, int_b, list_t, list_r, tuple_t, tuple_r, dict_r, is_n, in_t, in_r, addI_ii, subI_ii, min_ii, append_r, key_i, key_s, eq_int, D.bl.injEq, exists_eq_left, exists_eq_left', exists_eq_right, exists_eq_right', exists_eq', Option.some.injEq, decide_eq_true_eq, decide_eq_false_iff_not, Bool.false_eq_true, if_false, if_true, reduceCtorEq, false_implies, true_implies, true_and, and_true, forall_const, imp_self, Bool.not_true, Bool.not_false, Bool.not_eq_true', Bool.not_eq_false', not_true_eq_false, not_false_eq_true, not_true_eq_false, not_false_eq_true, at_lit0, at_lit1, at_lit2, at_lit3, at_lit4, at_lit5, List.length_replicate, oI, isNonD]
    exact ⟨rfl, Fm.refl⟩
  | some x =>
    have z3 : 0 + 1 + 1 + 1 ≤ SZ := by decide
    have c1 : CMul 7 x := .inl (by decide)
    have c2 : CPow 10 9 := ⟨by decide, by decide, by decide⟩
    simp only [List.map_cons, List.map_nil, List.length_cons, List.length_nil, List.cons_append, List.nil_append, List.replicate, List.set_cons_zero, List.set_cons_succ, seq_set, seq_ret, seq_expr, seq_next, seq_if, seq_asg, seq_seq, seq_cnt, oks_set, oks_ret, oks_expr, oks_next, oks_cnt, oks_if', oks_asg, ok_op, ok_un, ok_c, ok_nil, ok_cons, ok_tup, ok_lst, ok_var0, ok_varS, ok_call, ok_tst, ok_and, ok_or, ok_not, ok_meth, ok_bind, ok_some, ok_ite, ok_mapv, add_ii, add_tt, add_rr, sub_ii, mul_ii, mul_ti, mul_ri, mod_ii, fdiv_ii, pow_ii, lt_ii, get_ti, get_ri, get_rs, len_t, len_r, abs_i, int_b, list_t, list_r, tuple_t, tuple_r, dict_r, is_n, in_t, in_r, addI_ii, subI_ii, min_ii, append_r, key_i, key_s, eq_int, D.bl.injEq, exists_eq_left, exists_eq_left', exists_eq_right, exists_eq_right', exists_eq', Option.some.injEq, decide_eq_true_eq, decide_eq_false_iff_not, Bool.false_eq_true, if_false, if_true, reduceCtorEq, false_implies, true_implies, true_and, and_true, forall_const, imp_self, Bool.not_true, Bool.not_false, Bool.not_eq_true', Bool.not_eq_false', not_true_eq_false, not_false_eq_true, not_true_eq_false, not_false_eq_true, at_lit0, at_lit1, at_lit2, at_lit3, at_lit4, at_lit5, List.length_replicate, oI, isNonD, z3, c1, c2]
    generalize hs1 : st.push (.lst [.int x, .int (7 * x + 3), .int (10 ^ Int.toNat 9 - x)]) = s1
    have e1 : s1.get st.size = some (.lst [.int x, .int (7 * x + 3), .int (10 ^ Int.toNat 9 - x)]) := by rw [← hs1]; exact Sto.get_push_new
    have f1 : Fm [] st s1 := by rw [← hs1]; exact Fm.push
    rw [e1]
    have : w = 0 ∨ w = 1 ∨ w = 2 := by omega
    rcases this with rfl | rfl | rfl
    · simp only [List.map_cons, List.map_nil, List.length_cons, List.length_nil, List.cons_append, List.nil_append, List.replicate, List.set_cons_zero, List.set_cons_succ, seq_set, seq_ret, seq_expr, seq_next, seq_if, seq_asg, seq_seq, seq_cnt, oks_set, oks_ret, oks_expr, oks_next, oks_cnt, oks_if', oks_asg, ok_op, ok_un, ok_c, ok_nil, ok_cons, ok_tup, ok_lst, ok_var0, ok_varS, ok_call, ok_tst, ok_and, ok_or, ok_not, ok_meth, ok_bind, ok_some, ok_ite, ok_mapv, add_ii, add_tt, add_rr, sub_ii, mul_ii, mul_ti, mul_ri, mod_ii, fdiv_ii, pow_ii, lt_ii, get_ti, get_ri, get_rs, len_t, len_r, abs_i, int_b, list_t, list_r, tuple_t, tuple_r, dict_r, is_n, in_t, in_r, addI_ii, subI_ii, min_ii, append_r, key_i, key_s, eq_int, D.bl.injEq, exists_eq_left, exists_eq_left', exists_eq_right, exists_eq_right', exists_eq', Option.some.injEq, decide_eq_true_eq, decide_eq_false_iff_not, Bool.false_eq_true, if_false, if_true, reduceCtorEq, false_implies, true_implies, true_and, and_true, forall_const, imp_self, Bool.not_true, Bool.not_false, Bool.not_eq_true', Bool.not_eq_false', not_true_eq_false, not_false_eq_true, not_true_eq_false, not_false_eq_true, at_lit0, at_lit1, at_lit2, at_lit3, at_lit4, at_lit5, List.length_replicate]
      exact ⟨rfl, f1⟩
    · simp only [List.map_cons, List.map_nil, List.length_cons, List.length_nil, List.cons_append, List.nil_append, List.replicate, List.set_cons_zero, List.set_cons_succ, seq_set, seq_ret, seq_expr, seq_next, seq_if, seq_asg, seq_seq, seq_cnt, oks_set, oks_ret, oks_expr, oks_next, oks_cnt, oks_if', oks_asg, ok_op, ok_un, ok_c, ok_nil, ok_cons, ok_tup, ok_lst, ok_var0, ok_varS, ok_call, ok_tst, ok_and, ok_or, ok_not, ok_meth, ok_bind, ok_some, ok_ite, ok_mapv, add_ii, add_tt, add_rr, sub_ii, mul_ii, mul_ti, mul_ri, mod_ii, fdiv_ii, pow_ii, lt_ii, get_ti, get_ri, get_rs, len_t, len_r, abs_i, int_b, list_t, list_r, tuple_t, tuple_r, dict_r, is_n, in_t, in_r, addI_ii, subI_ii, min_ii, append_r, key_i, key_s, eq_int, D.bl.injEq, exists_eq_left, exists_eq_left', exists_eq_right, exists_eq_right', exists_eq', Option.some.injEq, decide_eq_true_eq, decide_eq_false_iff_not, Bool.false_eq_true, if_false, if_true, reduceCtorEq, false_implies, true_implies, true_and, and_true, forall_const, imp_self, Bool.not_true, Bool.not_false, Bool.not_eq_true', Bool.not_eq_false', not_true_eq_false, not_false_eq_true, not_true_eq_false, not_false_eq_true, at_lit0, at_lit1, at_lit2, at_lit3, at_lit4, at_lit5, List.length_replicate]
      exact ⟨rfl, f1⟩
    · simp only [List.map_cons, List.map_nil, List.length_cons, List.length_nil, List.cons_append, List.nil_append, List.replicate, List.set_cons_zero, List.set_cons_succ, seq_set, seq_ret, seq_expr, seq_next, seq_if, seq_asg, seq_seq, seq_cnt, oks_set, oks_ret, oks_expr, oks_next, oks_cnt, oks_if', oks_asg, ok_op, ok_un, ok_c, ok_nil, ok_cons, ok_tup, ok_lst, ok_var0, ok_varS, ok_call, ok_tst, ok_and, ok_or, ok_not, ok_meth, ok_bind, ok_some, ok_ite, ok_mapv, add_ii, add_tt, add_rr, sub_ii, mul_ii, mul_ti, mul_ri, mod_ii, fdiv_ii, pow_ii, lt_ii, get_ti, get_ri, get_rs, len_t, len_r, abs_i, int_b, list_t, list_r, tuple_t, tuple_r, dict_r, is_n, in_t, in_r, addI_ii, subI_ii, min_ii, append_r, key_i, key_s, eq_int, D.bl.injEq, exists_eq_left, exists_eq_left', exists_eq_right, exists_eq_right', exists_eq', Option.some.injEq, decide_eq_true_eq, decide_eq_false_iff_not, Bool.false_eq_true, if_false, if_true, reduceCtorEq, false_implies, true_implies, true_and, and_true, forall_const, imp_self, Bool.not_true, Bool.not_false, Bool.not_eq_true', Bool.not_eq_false', not_true_eq_false, not_false_eq_true, not_true_eq_false, not_false_eq_true, at_lit0, at_lit1, at_lit2, at_lit3, at_lit4, at_lit5, List.length_replicate]
      refine ⟨?_, f1⟩
      rfl
theorem ok_slt {f : M D} {lo hi : MO} {env : Dn.Env} {Q : D → Sto → Prop} (h : Ok (f env st) fun d s1 => ∃ xs, d = .tup xs ∧ Ok (lo env s1) fun l s2 => Ok (hi env s2) fun h s3 => Q (.tup (Dn.cutD xs l h)) s3) : Ok (slF f lo hi env st) Q := by
  unfold slF
  refine ok_bind.mpr (h.imp ?_)
  rintro d s1 ⟨n, rfl, h⟩
  exact ok_bind.mpr (h.imp fun l s2 h => ok_bind.mpr (h.imp fun u s3 q => ok_some.mpr q))
theorem oki_tup {f : M D} {env : Dn.Env} {Q : Src → Sto → Prop} {xs : List D} (h : f env st = some (.tup xs, st)) (q : Q (.tup xs) st) : Ok (seqI f env st) Q := oki_seq ⟨_, _, h, .inl ⟨_, rfl, q⟩⟩
/-- a tuple of names, renamed -/
theorem others_ok {f : M D} {e : Dn.Env} {v : Nat} {xs : List Int} {gw : Nat} (hw : 0 ≤ w ∧ w < 3) (hf : f e st = some (.tup (xs.map .int), st)) (hz : xs.length ≤ SZ) (he : ∀ x s, ∃ e1, nameG v (.int x) (wipeE e [v]) s = some (e1, s) ∧ ∀ s, varF v e1 s = some (.int x, s) ∧ varF gw e1 s = some (.int w, s)) {G : D → Sto → Prop} (hG : ∀ s, Fm [] st s → G (.tup ((xs.map (ren w)).map .int)) s) :
    Ok (unF tupleD (lcF (seqI f) (nameG v) (yesF) (callF 2 (Hd.runs (k + 1) 24) (consF (varF v) (consF (varF gw) nilF))) [v]) e st) G := by
  refine ok_un.mpr (ok_lcm (enc := D.int) (y := fun x => .int (ren w x)) (oki_tup hf ⟨xs, thru_tup, hz, fun x hx s f _ => ?_, fun s h1 h2 => ?_⟩))
  · obtain ⟨e1, h1, h2⟩ := he x s
    refine ⟨e1, h1, rfl, ok_call.mpr (ok_cons.mpr ⟨_, s, (h2 s).1, ok_cons.mpr ⟨_, s, (h2 s).2, ok_nil.mpr ⟨rfl, (other_ok (x := some x) hw).imp fun d s' q => q⟩⟩⟩)⟩
  · rw [tuple_r, seq_get h1]
    refine ok_some.mpr ?_
    have := hG s h2
    rw [List.map_map] at this
    exact this
theorem other_row_ok {r : Rw} (hw : 0 ≤ w ∧ w < 3) (hz : r.args.length ≤ SZ) : Ok (Hd.runs (k + 2) 26 [r.d, .int w] st) fun d s => d = (r.ren w).d ∧ Fm [] st s := by
  show Ok (bodyD _ (Hd.b__law_other_row (Hd.runs (k + 1))) _ st) _
  refine ok_body ?_
  unfold Hd.b__law_other_row
  show OkS (seqS _ _ [some r.d, some (.int w), none, none] st) _
  refine seq_set.mpr (others_ok (k := k) (xs := r.args) hw rfl hz (fun x s => ⟨_, rfl, fun s => ⟨rfl, rfl⟩⟩) fun s1 f1 => ?_)
  show OkS (retS _ [some r.d, some (.int w), some (.tup ((r.args.map (ren w)).map .int)), none] s1) _
  refine oks_ret.mpr (ok_tup.mpr (ok_cons.mpr (ok_call.mpr (ok_cons.mpr ⟨oI r.x, s1, rfl, ok_cons.mpr ⟨.int w, s1, rfl, ok_nil.mpr ⟨rfl, (other_ok (x := r.x) hw).imp ?_⟩⟩⟩))))
  rintro d s2 ⟨rfl, f2⟩
  exact ok_cons.mpr ⟨oK r.kd, s2, rfl, ok_cons.mpr ⟨.str r.op, s2, rfl, ok_cons.mpr ⟨_, s2, rfl, ok_cons.mpr ⟨r.more, s2, rfl, ok_cons.mpr ⟨.int r.line, s2, rfl, ok_nil.mpr ⟨by show 6 ≤ SZ; decide, rfl, f1.nil f2⟩⟩⟩⟩⟩⟩
def EZ : En → Prop
  | .jump _ as => as.length ≤ SZ
  | _ => True
theorem eq_s {a b : Str} {r : Bool} {f g : M D} {e : Dn.Env} {s : Sto} {Q : Bool → Sto → Prop} (hf : f e s = some (.str a, s)) (hg : g e s = some (.str b, s)) (ha : SeqAt.shaped (.str a) = true) (hb : SeqAt.shaped (.str b) = true) (h : (a == b) = r) (q : Q r s) : Ok (tstF (opF (eqD false) f g) e s) Q :=
  ok_tst.mpr (ok_op.mpr ⟨_, s, hf, _, s, hg, _, s, eq_lit ha hb h, r, rfl, q⟩)
theorem other_end_ok {en : En} (hw : 0 ≤ w ∧ w < 3) (hz : EZ en) : Ok (Hd.runs (k + 2) 25 [en.d, .int w] st) fun d s => d = (en.ren w).d ∧ Fm [] st s := by
  show Ok (bodyD _ (Hd.b__law_other_end (Hd.runs (k + 1))) _ st) _
  refine ok_body ?_
  unfold Hd.b__law_other_end
  show OkS (seqS _ _ [some en.d, some (.int w), none] st) _
  have rest : ∀ (a : Str) (x : Int) (tl : List D), (a == "jump") = false → (a == "fail") = false → SeqAt.shaped (.str a) = true → tl.length ≤ 2 → Dn.cutD (.str a :: .int x :: tl) (some 2) none = tl → OkS (seqS (ifS (tstF (opF (eqD false) (opF getD (varF 0) (cF (.int 0))) (cF (.str "jump")))) (retS (tupF (consF (cF (.str "jump")) (consF (opF getD (varF 0) (cF (.int 1))) (consF (unF tupleD (lcF (seqI (opF getD (varF 0) (cF (.int 2)))) (nameG 2) (yesF) (callF 2 (Hd.runs (k + 1) 24) (consF (varF 2) (consF (varF 1) nilF))) [2])) nilF))))) (nextS))
  (seqS (ifS (tstF (opF (eqD false) (opF getD (varF 0) (cF (.int 0))) (cF (.str "fail")))) (retS (varF 0)) (nextS))
  (retS (opF addD (tupF (consF (opF getD (varF 0) (cF (.int 0))) (consF (callF 2 (Hd.runs (k + 1) 24) (consF (opF getD (varF 0) (cF (.int 1))) (consF (varF 1) nilF))) nilF))) (slF (varF 0) (soF (cF (.int 2))) (noF))))) [some (.tup (.str a :: .int x :: tl)), some (.int w), none] st) fun r => match r with
    | .rt d s => d = .tup (.str a :: .int (ren w x) :: tl) ∧ Fm [] st s
    | _ => False := by
    intro a x tl h1 h2 ha hl hc
    have g0 : opF getD (varF 0) (cF (.int 0)) [some (.tup (.str a :: .int x :: tl)), some (.int w), none] st = some (.str a, st) := by
      show (atI (D.str a :: .int x :: tl) 0).map (fun d => (d, st)) = _
      rw [at_lit0]; rfl
    have g1 : opF getD (varF 0) (cF (.int 1)) [some (.tup (.str a :: .int x :: tl)), some (.int w), none] st = some (.int x, st) := by
      show (atI (D.str a :: .int x :: tl) 1).map (fun d => (d, st)) = _
      rw [at_lit1]; rfl
    refine seq_if.mpr (eq_s (a := a) (b := "jump") g0 rfl ha (by decide +kernel) h1 ⟨fun q => by (cases q), fun _ => seq_next.mpr (seq_if.mpr (eq_s (a := a) (b := "fail") g0 rfl ha (by decide +kernel) h2 ⟨fun q => by (cases q), fun _ => seq_next.mpr ?_⟩))⟩)
    refine oks_ret.mpr (ok_op.mpr (ok_tup.mpr (ok_cons.mpr ⟨.str a, st, g0, ok_cons.mpr (ok_call.mpr (ok_cons.mpr ⟨.int x, st, g1, ok_cons.mpr ⟨.int w, st, rfl, ok_nil.mpr ⟨rfl, (other_ok (x := some x) hw).imp ?_⟩⟩⟩))⟩)))
    rintro d s2 ⟨rfl, f2⟩
    refine ok_nil.mpr ⟨by show 2 ≤ SZ; decide, ok_slt ⟨_, s2, rfl, _, rfl, ok_so ⟨.int 2, s2, rfl, 2, rfl, ok_no.mpr ?_⟩⟩⟩
    rw [hc, add_tt, if_pos (by have : SZ = 16777216 := (by decide); show 2 + tl.length ≤ SZ; omega)]
    exact ok_some.mpr ⟨rfl, f2⟩
  have fin : ∀ {o : Option Res} {d' : D}, OkS o (fun r => match r with
    | .rt d s => d = d' ∧ Fm [] st s
    | _ => False) → OkS o fun r => match r with
    | .rt d s => d = d' ∧ Fm [] st s
    | .nx _ s => D.non = d' ∧ Fm [] st s
    | _ => False := fun h => h.imp fun r q => by cases r <;> first | exact q | exact False.elim q
  cases en with
  | jump g as =>
    refine seq_if.mpr (eq_s (a := "jump") (b := "jump") (r := true) rfl rfl (by decide +kernel) (by decide +kernel) (by decide +kernel) ⟨fun _ => ?_, fun q => by (cases q)⟩)
    refine seq_ret.mpr (ok_tup.mpr (ok_cons.mpr ⟨_, st, rfl, ok_cons.mpr ⟨.int g, st, rfl, ok_cons.mpr (others_ok (k := k) (xs := as) hw rfl hz (fun x s => ⟨_, rfl, fun s => ⟨rfl, rfl⟩⟩) fun s1 f1 => ok_nil.mpr ⟨by show 3 ≤ SZ; decide, rfl, f1⟩)⟩⟩))
  | branch x y n => exact fin (rest "branch" x [.int y, .int n] (by decide +kernel) (by decide +kernel) (by decide +kernel) (Nat.le_refl _) rfl)
  | give x => exact fin (rest "give" x [] (by decide +kernel) (by decide +kernel) (by decide +kernel) (by decide) rfl)
  | fail l =>
    exact seq_if.mpr (eq_s (a := "fail") (b := "jump") (r := false) rfl rfl (by decide +kernel) (by decide +kernel) (by decide +kernel) ⟨fun q => by (cases q), fun _ => seq_next.mpr (seq_if.mpr (eq_s (a := "fail") (b := "fail") (r := true) rfl rfl (by decide +kernel) (by decide +kernel) (by decide +kernel) ⟨fun _ => seq_ret.mpr ⟨_, st, rfl, rfl, Fm.refl⟩, fun q => by (cases q)⟩))⟩)
end
end Mw
/-! Loops that may be left; the middle renamed, whole. -/
namespace Mw
open PySem PySem.Spec PyProof.Rows L2 Dn
theorem oks_forR {it : Dn.Env → Sto → Option (Src × Sto)} {g : GM} {body : SM} {env : Dn.Env} {st : Sto} {R : Res → Prop} (h : Ok (it env st) fun src s1 => ∃ (xs : List D) (Pv : Nat → Dn.Env → Sto → Prop), countD src s1 = some xs.length ∧ Pv 0 env s1 ∧
    (∀ i e s d, xs[i]? = some d → Pv i e s → nextD src i s = some (some d) ∧ ∃ e1 s2, g d e s = some (e1, s2) ∧ OkS (body e1 s2) fun r => match r with
      | .nx e s => Pv (i + 1) e s
      | .ct e s => Pv (i + 1) e s
      | .bk e s => R (.nx e s)
      | .rt d s => R (.rt d s)) ∧
    (∀ e s, Pv xs.length e s → nextD src xs.length s = some none ∧ R (.nx e s))) : OkS (forS it g body env st) R := by
  obtain ⟨src, s1, e1, xs, Pv, hc, p0, step, stop⟩ := h
  have key : ∀ k i e s, i + k = xs.length → Pv i e s → OkS (forL src g body k i e s) R := by
    intro k
    induction k with
    | zero =>
      intro i e s hi hP
      have : i = xs.length := by omega
      subst this
      refine ⟨.nx e s, ?_, (stop e s hP).2⟩
      unfold forL
      rw [(stop e s hP).1]
    | succ k ih =>
      intro i e s hi hP
      have hlt : i < xs.length := by omega
      obtain ⟨hn, e2, s2, hg, r, hb, hr⟩ := step i e s _ (List.getElem?_eq_getElem hlt) hP
      unfold forL
      rw [hn]
      simp only [hg, hb]
      cases r with
      | nx e s => exact ih (i + 1) _ _ (by omega) hr
      | ct e s => exact ih (i + 1) _ _ (by omega) hr
      | bk e s => exact ⟨_, rfl, hr⟩
      | rt d s => exact ⟨_, rfl, hr⟩
  unfold forS
  rw [e1, Option.bind_some]
  simp only [hc, Option.bind_some]
  exact key xs.length 0 env s1 (by omega) p0
theorem oks_while {c : M Bool} {body : SM} {env : Dn.Env} {st : Sto} {R : Res → Prop} (I : Nat → Dn.Env → Sto → Prop) {m : Nat} (hm : m < 1000000000000000000) (h0 : I m env st)
    (step : ∀ m e s, I m e s → Ok (c e s) fun b s1 => (b = true → OkS (body e s1) fun r => match r with
      | .nx e s => ∃ m', m' < m ∧ I m' e s
      | .ct e s => ∃ m', m' < m ∧ I m' e s
      | .bk e s => R (.nx e s)
      | .rt d s => R (.rt d s)) ∧ (b = false → R (.nx e s1))) : OkS (whileS c body env st) R := by
  have key : ∀ k m e s, m < k → I m e s → OkS (whileL c body k e s) R := by
    intro k
    induction k with
    | zero => intro m e s hlt; omega
    | succ k ih =>
      intro m e s hlt hI
      obtain ⟨b, s1, hc, h1, h2⟩ := step m e s hI
      unfold whileL
      rw [hc]
      cases b with
      | false => exact ⟨_, rfl, h2 rfl⟩
      | true =>
        obtain ⟨r, hb, hr⟩ := h1 rfl
        simp only [hb]
        cases r with
        | nx e s =>
          obtain ⟨m', hl, hi⟩ := hr
          exact ih m' _ _ (by omega) hi
        | ct e s =>
          obtain ⟨m', hl, hi⟩ := hr
          exact ih m' _ _ (by omega) hi
        | bk e s => exact ⟨_, rfl, hr⟩
        | rt d s => exact ⟨_, rfl, hr⟩
  exact key WF m env st hm h0
theorem seq_while {c : M Bool} {body b : SM} {env : Dn.Env} {st : Sto} {R : Res → Prop} (h : OkS (whileS c body env st) fun r => match r with
    | .nx e s => OkS (b e s) R
    | r => R r) : OkS (seqS (whileS c body) b env st) R := oks_seq.mpr h
/-- the sizes of a block -/
structure BZ (b : Blk) : Prop where
  pr : b.pr.length ≤ 10000000
  rows : b.rows.length ≤ 10000000
  args : ∀ r ∈ b.rows, r.args.length ≤ SZ
  en : EZ b.en
theorem len_mem {α : Type} {f : α → List Int} {x : α} : ∀ {xs : List α}, x ∈ xs → (f x).length ≤ (xs.flatMap f).length
  | y :: xs, h => by
    rw [List.flatMap_cons, List.length_append]
    rcases List.mem_cons.mp h with rfl | h
    · omega
    · have := len_mem (f := f) h; omega
theorem FOk.bz {bs : List Blk} (h : FOk bs) {b : Blk} (hb : b ∈ bs) : BZ b := by
  obtain ⟨nx, n0, n1, hp, ho⟩ := h.nm
  have h1 := len_mem (f := gvB) hb
  rw [hp.length_eq, irange_len] at h1
  have h2 : (gvB b).length = b.pr.length + (b.rows.filterMap (·.x)).length := by unfold gvB; rw [List.length_append, List.length_map]
  refine ⟨by omega, by have := h.rl b hb; omega, fun r hr => ((ho b hb).1 r hr).2, ?_⟩
  have h3 := (ho b hb).2
  unfold EOk at h3
  unfold EZ
  split <;> rename_i q
  · rename_i g as
    rw [q] at h3
    exact h3.2.2
  · trivial
section
variable {st : Sto} {k : Nat} {w : Int}
def renB (c : Nat → FnD) : SM := (seqS (setS 7 (unF tupleD (lcF (seqI (varF 7)) (tupG 2 (consG (nameG 10) (consG (nameG 11) (nilG)))) (yesF) (tupF (consF (callF 2 (c 24) (consF (varF 10) (consF (varF 1) nilF))) (consF (varF 11) nilF))) [10, 11])))
  (seqS (setS 8 (unF tupleD (lcF (seqI (varF 8)) (nameG 12) (yesF) (callF 2 (c 26) (consF (varF 12) (consF (varF 1) nilF))) [12])))
  (exprS (methF isL appendD (varF 6) (consF (tupF (consF (varF 7) (consF (varF 8) (consF (callF 2 (c 25) (consF (varF 9) (consF (varF 1) nilF))) nilF)))) nilF)))))
theorem renB_ok {b : Blk} (hw : 0 ≤ w ∧ w < 3) (hz : BZ b) {M : Nat} {acc : List D} (hM : st.get M = some (.lst acc)) (hl : acc.length < SZ) {a0 a2 a3 a4 a5 a10 a11 a12 : Option D} {R : Res → Prop}
    (hR : ∀ s a7 a8 a9, Fm [] st s → R (.nx [a0, some (.int w), a2, a3, a4, a5, some (.ref M), a7, a8, a9, a10, a11, a12] (s.set M (.lst (acc ++ [(b.ren w).d]))))) :
    OkS (renB (Hd.runs (k + 2)) [a0, some (.int w), a2, a3, a4, a5, some (.ref M), some (.tup (b.pr.map pD)), some (.tup (b.rows.map Rw.d)), some b.en.d, a10, a11, a12] st) R := by
  have hs : SZ = 16777216 := by decide
  obtain ⟨z1, z2, z3, z4⟩ := hz
  unfold renB
  refine seq_set.mpr (ok_un.mpr (ok_lcm (enc := pD) (y := fun p => pD (ren w p.1, p.2)) (oki_tup (xs := b.pr.map pD) rfl ⟨b.pr, thru_tup, by omega, fun p hp s f _ => ⟨_, rfl, rfl, ?_⟩, fun s h1 f1 => ?_⟩)))
  · refine ok_tup.mpr (ok_cons.mpr (ok_call.mpr (ok_cons.mpr ⟨.int p.1, s, rfl, ok_cons.mpr ⟨.int w, s, rfl, ok_nil.mpr ⟨rfl, (other_ok (k := k + 1) (x := some p.1) hw).imp ?_⟩⟩⟩)))
    rintro d s2 ⟨rfl, f2⟩
    exact ok_cons.mpr ⟨p.2.d, s2, rfl, ok_nil.mpr ⟨by show 2 ≤ SZ; decide, rfl, f2⟩⟩
  rw [tuple_r, seq_get h1]
  refine ok_some.mpr ?_
  generalize hp7 : D.tup (b.pr.map fun p => pD (ren w p.1, p.2)) = d7
  show OkS (seqS _ _ [a0, some (.int w), a2, a3, a4, a5, some (.ref M), some d7, some (.tup (b.rows.map Rw.d)), some b.en.d, a10, a11, a12] s) _
  refine seq_set.mpr (ok_un.mpr (ok_lcm (enc := Rw.d) (y := fun r => (r.ren w).d) (oki_tup (xs := b.rows.map Rw.d) rfl ⟨b.rows, thru_tup, by omega, fun r hr s' f _ => ⟨_, rfl, rfl, ?_⟩, fun s2 h2 f2 => ?_⟩)))
  · exact ok_call.mpr (ok_cons.mpr ⟨r.d, s', rfl, ok_cons.mpr ⟨.int w, s', rfl, ok_nil.mpr ⟨rfl, other_row_ok (k := k) hw (z3 r hr)⟩⟩⟩)
  rw [tuple_r, seq_get h2]
  refine ok_some.mpr ?_
  generalize hp8 : D.tup (b.rows.map fun r => (r.ren w).d) = d8
  show OkS (exprS _ [a0, some (.int w), a2, a3, a4, a5, some (.ref M), some d7, some d8, some b.en.d, a10, a11, a12] s2) _
  have f12 := f1.nil f2
  have m2 := f12.keep hM (by simp)
  refine oks_expr.mpr (ok_meth.mpr ⟨_, s2, rfl, isL_of m2, ok_cons.mpr (ok_tup.mpr (ok_cons.mpr ⟨d7, s2, rfl, ok_cons.mpr ⟨d8, s2, rfl, ok_cons.mpr (ok_call.mpr (ok_cons.mpr ⟨b.en.d, s2, rfl, ok_cons.mpr ⟨.int w, s2, rfl, ok_nil.mpr ⟨rfl, (other_end_ok (k := k) hw z4).imp ?_⟩⟩⟩))⟩⟩))⟩)
  rintro d s3 ⟨rfl, f3⟩
  refine ok_nil.mpr ⟨by show 3 ≤ SZ; decide, ok_nil.mpr ?_⟩
  rw [append_r, f3.keep m2 (by simp)]
  simp only
  rw [if_pos hl]
  refine ok_some.mpr ?_
  have eb : D.tup [d7, d8, (b.en.ren w).d] = (b.ren w).d := by
    rw [← hp7, ← hp8]
    show _ = D.tup [.tup ((b.pr.map fun p => (ren w p.1, p.2)).map pD), .tup ((b.rows.map (Rw.ren w)).map Rw.d), (b.en.ren w).d]
    rw [List.map_map, List.map_map]
    rfl
  rw [eb]
  exact hR s3 _ _ _ (f12.nil f3)
def renF (w : Int) (f : Str × List Blk) : Str × List Blk := (f.1, f.2.map (Blk.ren w))
theorem renamed_ok {fi : List Kd} {fs : List (Str × List Blk)} (hw : 0 ≤ w ∧ w < 3) (hfs : ∀ f ∈ fs, FOk f.2) (hl : fs.length ≤ 100) {G : D → Sto → Prop} (hG : ∀ s, Fm [] st s → G (midR fi (fs.map (renF w))) s) : Ok (Hd.runs (k + 3) 27 [midR fi fs, .int w] st) G := by
  have hs : SZ = 16777216 := by decide
  show Ok (bodyD _ (Hd.b__law_renamed (Hd.runs (k + 2))) _ st) _
  refine ok_body ?_
  unfold Hd.b__law_renamed
  show OkS (seqS _ _ [some (midR fi fs), some (.int w), none, none, none, none, none, none, none, none, none, none, none] st) _
  refine seq_set.mpr (ok_lst.mpr (ok_nil.mpr ⟨by show 0 ≤ SZ; decide, ?_⟩))
  generalize hs1 : st.push (.lst []) = s1
  have e1 : s1.get st.size = some (.lst []) := by rw [← hs1]; exact Sto.get_push_new
  have f1 : Fm [] st s1 := by rw [← hs1]; exact Fm.push
  generalize hF : st.size = F at e1
  have hFl : F < s1.size := Sto.get_lt e1
  have hF0 : st.size ≤ F := by omega
  show OkS (seqS _ _ [some (midR fi fs), some (.int w), some (.ref F), none, none, none, none, none, none, none, none, none, none] s1) _
  refine seq_for (oks_for (oki_tup (xs := fs.map fnD) rfl ⟨fs.map fnD, fun i e s => ∃ a3 a4 a5 a6 a7 a8 a9, e = [some (midR fi fs), some (.int w), some (.ref F), a3, a4, a5, a6, a7, a8, a9, none, none, none] ∧ s.get F = some (.lst ((fs.take i).map fun f => fnD (renF w f))) ∧ Fm [] st s, rfl, ⟨_, _, _, _, _, _, _, rfl, e1, f1⟩, ?_, ?_⟩))
  · rintro i e s d hd ⟨a3, a4, a5, a6, a7, a8, a9, rfl, hg, hf⟩
    have hd2 := hd
    rw [List.getElem?_map] at hd2
    obtain ⟨f, hfi, rfl⟩ := mapS hd2
    have hfm := List.mem_of_getElem? hfi
    refine ⟨by show some ((fs.map fnD)[i]?) = _; rw [hd], _, s, rfl, ?_⟩
    show OkS (seqS _ _ [some (midR fi fs), some (.int w), some (.ref F), some (.str f.1), some Kd.num.d, some (.tup (f.2.map Blk.d)), a6, a7, a8, a9, none, none, none] s) _
    refine seq_set.mpr (ok_lst.mpr (ok_nil.mpr ⟨by show 0 ≤ SZ; decide, ?_⟩))
    generalize hs2 : s.push (.lst []) = s2
    have e2 : s2.get s.size = some (.lst []) := by rw [← hs2]; exact Sto.get_push_new
    have f2 : Fm [] s s2 := by rw [← hs2]; exact Fm.push
    generalize hM : s.size = M at e2
    have hMs : s.size ≤ M := by omega
    have hMF : M ≠ F := by have := Sto.get_lt hg; omega
    show OkS (seqS _ _ [some (midR fi fs), some (.int w), some (.ref F), some (.str f.1), some Kd.num.d, some (.tup (f.2.map Blk.d)), some (.ref M), a7, a8, a9, none, none, none] s2) _
    have lf := (hfs f hfm).len
    refine seq_for (oks_for (oki_tup (xs := f.2.map Blk.d) rfl ⟨f.2.map Blk.d, fun j e t => ∃ a7 a8 a9, e = [some (midR fi fs), some (.int w), some (.ref F), some (.str f.1), some Kd.num.d, some (.tup (f.2.map Blk.d)), some (.ref M), a7, a8, a9, none, none, none] ∧ t.get M = some (.lst ((f.2.take j).map fun b => (b.ren w).d)) ∧ Fm [] s t, rfl, ⟨_, _, _, rfl, e2, f2⟩, ?_, ?_⟩))
    · rintro j e t d hd ⟨a7, a8, a9, rfl, hg2, hf2⟩
      have hd2 := hd
      rw [List.getElem?_map] at hd2
      obtain ⟨b, hbi, rfl⟩ := mapS hd2
      have hbm := List.mem_of_getElem? hbi
      refine ⟨by show some ((f.2.map Blk.d)[j]?) = _; rw [hd], _, t, rfl, ?_⟩
      refine renB_ok (k := k) (b := b) hw ((hfs f hfm).bz hbm) hg2 (by rw [List.length_map, List.length_take]; omega) fun t2 b7 b8 b9 f3 => ⟨_, _, _, rfl, ?_, ?_⟩
      · rw [Sto.get_set_same (Sto.get_lt (f3.keep hg2 (by simp))), List.take_add_one, hbi, List.map_append]
        rfl
      · exact (hf2.nil f3).trans (Fm.set (W := [M]) (.inl (by simp))) fun q hq => .inr (by rw [List.mem_singleton.mp hq]; exact hMs)
    · rintro e t ⟨a7, a8, a9, rfl, hg2, hf2⟩
      rw [List.length_map] at hg2 ⊢
      rw [List.take_length] at hg2
      refine ⟨by show some ((f.2.map Blk.d)[f.2.length]?) = _; simp, ?_⟩
      show OkS (exprS _ [some (midR fi fs), some (.int w), some (.ref F), some (.str f.1), some Kd.num.d, some (.tup (f.2.map Blk.d)), some (.ref M), a7, a8, a9, none, none, none] t) _
      have gF := hf2.keep hg (by simp)
      refine oks_expr.mpr (ok_meth.mpr ⟨_, t, rfl, isL_of gF, ok_cons.mpr (ok_tup.mpr (ok_cons.mpr ⟨.str f.1, t, rfl, ok_cons.mpr ⟨Kd.num.d, t, rfl, ok_cons.mpr (ok_un.mpr ⟨.ref M, t, rfl, ?_⟩)⟩⟩))⟩)
      show Ok (tupleD (.ref M) t) _
      rw [tuple_r, seq_get hg2]
      refine ok_some.mpr (ok_nil.mpr ⟨by show 3 ≤ SZ; decide, ok_nil.mpr ?_⟩)
      rw [append_r, gF]
      simp only
      rw [if_pos (by rw [List.length_map, List.length_take]; omega)]
      refine ok_some.mpr ⟨_, _, _, _, _, _, _, rfl, ?_, ?_⟩
      · rw [Sto.get_set_same (Sto.get_lt gF), List.take_add_one, hfi, List.map_append]
        have eb : f.2.map (fun b => (b.ren w).d) = (f.2.map (Blk.ren w)).map Blk.d := by rw [List.map_map]; rfl
        rw [eb]
        rfl
      · exact (hf.nil hf2).trans (Fm.set (W := [F]) (.inl (by simp))) fun q hq => .inr (by rw [List.mem_singleton.mp hq]; exact hF0)
  · rintro e s ⟨a3, a4, a5, a6, a7, a8, a9, rfl, hg, hf⟩
    rw [List.length_map] at hg ⊢
    rw [List.take_length] at hg
    refine ⟨by show some ((fs.map fnD)[fs.length]?) = _; simp, ?_⟩
    show OkS (retS _ [some (midR fi fs), some (.int w), some (.ref F), a3, a4, a5, a6, a7, a8, a9, none, none, none] s) _
    refine oks_ret.mpr (ok_tup.mpr (ok_cons.mpr ⟨.tup [.tup [.str "pair", .tup (fi.map Kd.d)]], s, rfl, ok_cons.mpr (ok_un.mpr ⟨.ref F, s, rfl, ?_⟩)⟩))
    show Ok (tupleD (.ref F) s) _
    rw [tuple_r, seq_get hg]
    refine ok_some.mpr (ok_nil.mpr ⟨by show 2 ≤ SZ; decide, ?_⟩)
    have := hG s hf
    unfold midR at this
    rw [List.map_map] at this
    exact this
end
end Mw
/-! Which names live where: the plain law. -/
namespace Mw
open PySem PySem.Spec PyProof.Rows L2 Dn
theorem nodup_len {α : Type} [DecidableEq α] : ∀ {xs ys : List α}, xs.Nodup → (∀ x ∈ xs, x ∈ ys) → xs.length ≤ ys.length
  | [], _, _, _ => Nat.zero_le _
  | x :: xs, ys, hn, hs => by
    have hx := hs x List.mem_cons_self
    have h1 := nodup_len (xs := xs) (ys := ys.erase x) (List.nodup_cons.mp hn).2 fun y hy => by
      have hne : y ≠ x := by
        rintro rfl
        exact (List.nodup_cons.mp hn).1 hy
      exact (List.mem_erase_of_ne hne).mpr (hs y (List.mem_cons_of_mem _ hy))
    rw [List.length_erase_of_mem hx] at h1
    have := List.length_pos_of_mem hx
    rw [List.length_cons]
    omega
theorem nodup_full {α : Type} [DecidableEq α] {xs ys : List α} (hx : xs.Nodup) (hs : ∀ x ∈ xs, x ∈ ys) (hl : ys.length ≤ xs.length) : ∀ y ∈ ys, y ∈ xs := by
  intro y hy
  by_cases h : y ∈ xs
  · exact h
  · have := nodup_len (xs := y :: xs) (ys := ys) (List.nodup_cons.mpr ⟨h, hx⟩) fun z hz => by
      rcases List.mem_cons.mp hz with rfl | hz
      · exact hy
      · exact hs z hz
    rw [List.length_cons] at this
    omega
inductive Met where
  | used | given | on
deriving DecidableEq
def metR (x : Int) : List Rw → Option Met
  | [] => none
  | r :: rs => if x ∈ r.args then some .used else if r.x = some x then some .given else metR x rs
def En.asks : En → List Int
  | .jump _ as => as
  | .branch x _ _ => [x]
  | .give x => [x]
  | .fail _ => []
def En.goals : En → List Int
  | .jump g _ => [g]
  | .branch _ y n => [y, n]
  | _ => []
/-- the goals as the program tells them -/
def En.gl : En → List Int
  | .jump g _ => [g]
  | .branch _ y n => srt (ddup [y, n])
  | _ => []
theorem En.gl_mem {e : En} {g : Int} : g ∈ e.gl ↔ g ∈ e.goals := by
  cases e with
  | branch x y n => exact (srt_perm _).mem_iff.trans ddup_mem
  | _ => exact Iff.rfl
def met (b : Blk) (x : Int) : Met := match metR x b.rows with
  | some m => m
  | none => if x ∈ b.en.asks then .used else .on
def Blk.ps (b : Blk) : List Int := b.pr.map (·.1)
/-- x lives ahead of block i -/
inductive Lv (bs : List Blk) (x : Int) : Nat → Prop
  | use {i : Nat} {b : Blk} : bs[i]? = some b → met b x = .used → Lv bs x i
  | on {i j : Nat} {b c : Blk} : bs[i]? = some b → met b x = .on → (j : Int) ∈ b.en.goals → bs[j]? = some c → x ∉ c.ps → Lv bs x j → Lv bs x i
/-- what lives ahead of a block, by what lives behind it -/
def Ahd (b : Blk) (q : Int → Prop) (x : Int) : Prop := met b x = .used ∨ (met b x = .on ∧ q x)
/-- what lives behind a block, by what lives ahead of its goals -/
def Bhd (bs : List Blk) (b : Blk) (p : Nat → Int → Prop) (x : Int) : Prop := ∃ (j : Nat) (c : Blk), (j : Int) ∈ b.en.goals ∧ bs[j]? = some c ∧ x ∉ c.ps ∧ p j x
theorem Ahd.mono {b : Blk} {q q' : Int → Prop} {x : Int} (h : ∀ x, q x → q' x) (a : Ahd b q x) : Ahd b q' x := a.imp id fun z => ⟨z.1, h x z.2⟩
theorem Bhd.mono {bs : List Blk} {b : Blk} {p p' : Nat → Int → Prop} {x : Int} (h : ∀ j x, p j x → p' j x) (a : Bhd bs b p x) : Bhd bs b p' x := by
  obtain ⟨j, c, h1, h2, h3, h4⟩ := a
  exact ⟨j, c, h1, h2, h3, h j x h4⟩
theorem Lv.of {bs : List Blk} {b : Blk} {i : Nat} {x : Int} {p : Nat → Int → Prop} (hb : bs[i]? = some b) (hp : ∀ j x, p j x → Lv bs x j) (h : Ahd b (Bhd bs b p) x) : Lv bs x i := by
  rcases h with h | ⟨h, j, c, h1, h2, h3, h4⟩
  · exact .use hb h
  · exact .on hb h h1 h2 h3 (hp j x h4)
theorem Lv.closed {bs : List Blk} {x : Int} {p : Nat → Int → Prop} (hc : ∀ i b, bs[i]? = some b → ∀ x, Ahd b (Bhd bs b p) x → p i x) {i : Nat} (h : Lv bs x i) : p i x := by
  induction h with
  | use hb hm => exact hc _ _ hb _ (.inl hm)
  | on hb hm hg hj hx _ ih => exact hc _ _ hb _ (.inr ⟨hm, _, _, hg, hj, hx, ih⟩)
/-- along the rows -/
theorem metR_none {x : Int} : ∀ {rs : List Rw}, metR x rs = none → ∀ r ∈ rs, x ∉ r.args ∧ r.x ≠ some x
  | [], _, _, h => by cases h
  | r :: rs, h, q, hq => by
    unfold metR at h
    split at h
    · cases h
    · rename_i h1
      split at h
      · cases h
      · rename_i h2
        rcases List.mem_cons.mp hq with rfl | hq
        · exact ⟨h1, h2⟩
        · exact metR_none h q hq
/-- what lives ahead of rows, by what lives behind them -/
def AhR (rs : List Rw) (q : Int → Prop) (x : Int) : Prop := metR x rs = some .used ∨ (metR x rs = none ∧ q x)
theorem AhR.cons {r : Rw} {rs : List Rw} {q : Int → Prop} {x : Int} : AhR (r :: rs) q x ↔ x ∈ r.args ∨ (r.x ≠ some x ∧ AhR rs q x) := by
  unfold AhR
  rw [metR]
  by_cases h1 : x ∈ r.args
  · simp [h1]
  · by_cases h2 : r.x = some x
    · simp [h1, h2]
    · simp [h1, h2]
theorem metR_on {x : Int} : ∀ {rs : List Rw}, metR x rs ≠ some .on
  | [], h => by cases h
  | r :: rs, h => by
    unfold metR at h
    split at h
    · cases h
    · split at h
      · cases h
      · exact metR_on h
theorem Ahd.iff {b : Blk} {q : Int → Prop} {x : Int} : Ahd b q x ↔ AhR b.rows (fun x => q x ∨ x ∈ b.en.asks) x := by
  unfold Ahd AhR met
  have hno := @metR_on x b.rows
  revert hno
  cases metR x b.rows with
  | none =>
    intro _
    by_cases h : x ∈ b.en.asks
    · simp [h]
    · simp [h]
  | some m => cases m <;> simp
/-- every name that lives is used -/
theorem metR_used {x : Int} : ∀ {rs : List Rw}, metR x rs = some .used → ∃ r ∈ rs, x ∈ r.args
  | [], h => by cases h
  | r :: rs, h => by
    unfold metR at h
    split at h
    · rename_i h1
      exact ⟨r, List.mem_cons_self, h1⟩
    · split at h
      · cases h
      · obtain ⟨q, hq, hx⟩ := metR_used h
        exact ⟨q, List.mem_cons_of_mem _ hq, hx⟩
/-- all names used are among U -/
def UsB (U : List Int) (b : Blk) : Prop := (∀ r ∈ b.rows, ∀ a ∈ r.args, a ∈ U) ∧ ∀ a ∈ b.en.asks, a ∈ U
theorem met_used {U : List Int} {b : Blk} {x : Int} (hu : UsB U b) (h : met b x = .used) : x ∈ U := by
  unfold met at h
  split at h
  · rename_i m hm
    subst h
    obtain ⟨r, hr, hx⟩ := metR_used hm
    exact hu.1 r hr x hx
  · split at h
    · rename_i hx
      exact hu.2 x hx
    · cases h
theorem Lv.mem {U : List Int} {bs : List Blk} (hu : ∀ b ∈ bs, UsB U b) {x : Int} {i : Nat} (h : Lv bs x i) : x ∈ U := by
  induction h with
  | use hb hm => exact met_used (hu _ (List.mem_of_getElem? hb)) hm
  | on _ _ _ _ _ _ ih => exact ih
/-- the length of all together -/
def tot (xss : List (List Int)) : Nat := (xss.map List.length).sum
theorem tot_set {ys : List Int} : ∀ {xss : List (List Int)} {i : Nat} {xs : List Int}, xss[i]? = some xs → tot (xss.set i ys) + xs.length = tot xss + ys.length
  | [], _, _, h => by simp at h
  | a :: r, 0, xs, h => by
    simp only [List.getElem?_cons_zero, Option.some.injEq] at h
    subst h
    unfold tot
    simp
    omega
  | a :: r, i + 1, xs, h => by
    simp only [List.getElem?_cons_succ] at h
    have := tot_set (ys := ys) h
    unfold tot at this ⊢
    simp only [List.set_cons_succ, List.map_cons, List.sum_cons]
    omega
theorem tot_le {m : Nat} : ∀ {xss : List (List Int)}, (∀ xs ∈ xss, xs.length ≤ m) → tot xss ≤ xss.length * m
  | [], _ => by unfold tot; simp
  | a :: r, h => by
    have h1 := h a List.mem_cons_self
    have h2 := tot_le (xss := r) fun x hx => h x (List.mem_cons_of_mem _ hx)
    unfold tot at h2 ⊢
    simp only [List.map_cons, List.sum_cons, List.length_cons]
    rw [Nat.add_mul]
    omega
end Mw
/-! Dicts as sets of names; the small defs. -/
namespace Mw
open PySem PySem.Spec PyProof.Rows L2 Dn
def kv (xs : List Int) : List (Key × D) := xs.map fun x => (Sum.inl x, D.bl true)
def ins (x : Int) (xs : List Int) : List Int := if x ∈ xs then xs else xs ++ [x]
theorem ins_mem {x y : Int} {xs : List Int} : y ∈ ins x xs ↔ y ∈ xs ∨ y = x := by
  unfold ins
  split
  · rename_i h
    exact ⟨.inl, fun q => q.elim id fun e => e ▸ h⟩
  · simp
theorem ins_nodup {x : Int} {xs : List Int} (h : xs.Nodup) : (ins x xs).Nodup := by
  unfold ins
  split
  · exact h
  · rename_i hx
    refine List.nodup_append.mpr ⟨h, by simp, fun a ha b hb => ?_⟩
    rw [List.mem_singleton.mp hb]
    rintro rfl
    exact hx ha
theorem kv_any {x : Int} : ∀ {xs : List Int}, ((kv xs).any fun e => decide (e.1 = .inl x)) = decide (x ∈ xs)
  | [] => rfl
  | y :: xs => by
    have ih := @kv_any x xs
    unfold kv at ih ⊢
    rw [List.map_cons, List.any_cons, ih]
    by_cases h : y = x
    · subst h; simp
    · have : x ≠ y := fun e => h e.symm
      simp [h, this]
theorem kv_put {x : Int} {xs : List Int} : kPut (kv xs) (.inl x) (.bl true) = kv (ins x xs) := by
  unfold kPut
  rw [kv_any]
  unfold ins
  by_cases h : x ∈ xs
  · rw [if_pos h, if_pos (by simpa using h)]
    unfold kv
    rw [List.map_map]
    refine List.map_congr_left fun y _ => ?_
    simp only [Function.comp]
    split <;> rfl
  · rw [if_neg h, if_neg (by simpa using h)]
    unfold kv
    rw [List.map_append]
    rfl
def mrg (xs ys : List Int) : List Int := ys.foldl (fun a y => ins y a) xs
theorem mrg_mem {z : Int} : ∀ {ys xs : List Int}, z ∈ mrg xs ys ↔ z ∈ xs ∨ z ∈ ys
  | [], xs => by unfold mrg; simp
  | y :: ys, xs => by
    have := @mrg_mem z ys (ins y xs)
    unfold mrg at this ⊢
    rw [List.foldl_cons, this, ins_mem, List.mem_cons]
    constructor
    · rintro ((h | h) | h)
      · exact .inl h
      · exact .inr (.inl h)
      · exact .inr (.inr h)
    · rintro (h | h | h)
      · exact .inl (.inl h)
      · exact .inl (.inr h)
      · exact .inr h
theorem mrg_nodup : ∀ {ys xs : List Int}, xs.Nodup → (mrg xs ys).Nodup
  | [], _, h => h
  | y :: ys, xs, h => mrg_nodup (ys := ys) (ins_nodup h)
theorem kv_merge : ∀ {ys xs : List Int}, kMerge (kv xs) (kv ys) = kv (mrg xs ys)
  | [], _ => rfl
  | y :: ys, xs => by
    have := @kv_merge ys (ins y xs)
    rw [← kv_put] at this
    exact this
theorem kv_drop {x : Int} {xs : List Int} : kDrop (kv xs) (.inl x) = kv (xs.filter fun y => decide (y ≠ x)) := by
  unfold kDrop kv
  rw [List.filter_map]
  congr 1
  refine List.filter_congr fun y _ => ?_
  simp
theorem kv_get {x : Int} : ∀ {xs : List Int}, kGet (kv xs) (.inl x) = if x ∈ xs then some (.bl true) else none
  | [] => rfl
  | y :: xs => by
    have ih := @kv_get x xs
    unfold kGet kv at ih ⊢
    rw [List.map_cons, List.find?_cons]
    by_cases h : y = x
    · subst h; simp
    · have h2 : x ≠ y := fun e => h e.symm
      have h3 : decide ((Sum.inl y : Key) = Sum.inl x) = false := by
        rw [decide_eq_false_iff_not]
        exact fun e => h (Sum.inl.inj e)
      simp only [h3, List.mem_cons, h2, false_or]
      exact ih
theorem kv_keys : ∀ {xs : List Int}, keysI (kv xs) = some xs
  | [] => rfl
  | x :: xs => by
    have := @kv_keys xs
    unfold kv at this ⊢
    rw [List.map_cons, keysI, this]
    rfl
theorem kv_allT : ∀ {xs : List Int}, allT (kv xs) = true
  | [] => rfl
  | x :: xs => by
    have := @kv_allT xs
    unfold kv at this ⊢
    rw [List.map_cons, allT, this]
    rfl
theorem kv_len {xs : List Int} : (kv xs).length = xs.length := List.length_map _
theorem kv_all {xs ys : List Int} : ((kv xs).all fun p => (kGet (kv ys) p.1).isSome) = decide (∀ x ∈ xs, x ∈ ys) := by
  rw [Bool.eq_iff_iff, List.all_eq_true, decide_eq_true_eq]
  unfold kv
  constructor
  · intro h x hx
    have := h (.inl x, .bl true) (List.mem_map_of_mem (f := fun x : Int => ((Sum.inl x : Key), D.bl true)) hx)
    rw [show (List.map (fun x : Int => ((Sum.inl x : Key), D.bl true)) ys) = kv ys from rfl, kv_get] at this
    split at this
    · assumption
    · cases this
  · intro h p hp
    obtain ⟨x, hx, rfl⟩ := List.mem_map.mp hp
    rw [show (List.map (fun x : Int => ((Sum.inl x : Key), D.bl true)) ys) = kv ys from rfl, kv_get, if_pos (h x hx)]
    rfl
/-- a dict that stands for the set of those that p tells, all among U -/
def KS (U : List Int) (s : Sto) (n : Nat) (p : Int → Prop) : Prop := ∃ xs : List Int, s.get n = some (.dic (kv xs)) ∧ xs.Nodup ∧ (∀ x ∈ xs, x ∈ U) ∧ ∀ x, x ∈ xs ↔ p x
theorem KS.fm {U : List Int} {s s' : Sto} {n : Nat} {p : Int → Prop} {W : List Nat} (h : KS U s n p) (f : Fm W s s') (hn : n ∉ W) : KS U s' n p := let ⟨xs, h1, h2⟩ := h; ⟨xs, f.keep h1 hn, h2⟩
theorem KS.iff {U : List Int} {s : Sto} {n : Nat} {p q : Int → Prop} (h : KS U s n p) (e : ∀ x, p x ↔ q x) : KS U s n q := let ⟨xs, h1, h2, h3, h4⟩ := h; ⟨xs, h1, h2, h3, fun x => (h4 x).trans (e x)⟩
theorem KS.lt {U : List Int} {s : Sto} {n : Nat} {p : Int → Prop} (h : KS U s n p) : n < s.size := let ⟨_, h1, _⟩ := h; Sto.get_lt h1
theorem isDk_of {n : Nat} {s : Sto} {kvs : List (Key × D)} (h : s.get n = some (.dic kvs)) : isDk s (.ref n) = true := by
  show (match s.get n with
    | some (.dic _) => true
    | _ => false) = true
  rw [h]
/-- what is gone through: a tuple or list of ints -/
def Ints (s : Sto) (d : D) (xs : List Int) : Prop := d = .tup (xs.map .int) ∨ ∃ n, d = .ref n ∧ s.get n = some (.lst (xs.map .int))
theorem Ints.fm {s s' : Sto} {d : D} {xs : List Int} (h : Ints s d xs) (f : Fm [] s s') : Ints s' d xs := h.imp id fun ⟨n, h1, h2⟩ => ⟨n, h1, f.keep h2 (by simp)⟩
theorem Ints.src {s0 s : Sto} {d : D} {xs : List Int} (h : Ints s0 d xs) (f0 : Fm [] s0 s) {f : M D} {env : Dn.Env} {st : Sto} (hf : f env st = some (d, s)) {Q : Src → Sto → Prop} (q : ∀ src, (∀ s', Fm [] s0 s' → ∀ i, nextD src i s' = some ((xs.map D.int)[i]?)) → countD src s = some (xs.map D.int).length → Q src s) : Ok (seqI f env st) Q := by
  rcases h with rfl | ⟨n, rfl, hn⟩
  · exact oki_seq ⟨_, s, hf, .inl ⟨_, rfl, q _ (fun _ _ _ => rfl) rfl⟩⟩
  · refine oki_seq ⟨_, s, hf, .inr ⟨n, _, rfl, f0.keep hn (by simp), q _ (fun s' f i => ?_) ?_⟩⟩
    · show (s'.seq n).map (fun xs => xs[i]?) = _
      rw [seq_get (f.keep hn (by simp))]
      rfl
    · show (s.seq n).map List.length = _
      rw [seq_get (f0.keep hn (by simp))]
      rfl
theorem fm_new {s s1 : Sto} {n : Nat} {o : O} (f : Fm [] s s1) (h : s.size ≤ n) : Fm [] s (s1.set n o) := f.trans (Fm.set (W := [n]) (.inl (by simp))) fun i q => .inr (by rw [List.mem_singleton.mp q]; exact h)
theorem set_dic {n : Nat} {kvs : List (Key × D)} {i v : D} {k : Key} {s : Sto} (h : s.get n = some (.dic kvs)) (hk : i.key = some k) (hz : kvs.length < SZ) : setD (.ref n) i v s = some (s.set n (.dic (kPut kvs k v))) := by
  unfold setD
  simp only [h, hk, Option.bind_some]
  rw [if_pos hz]
theorem set_lst {n : Nat} {xs : List D} {k : Int} {v : D} {s : Sto} (h : s.get n = some (.lst xs)) (h0 : 0 ≤ k) (h1 : k < xs.length) : setD (.ref n) (.int k) v s = some (s.set n (.lst (xs.set k.toNat v))) := by
  unfold setD
  simp only [h]
  have : ixN xs.length k = some k.toNat := by
    unfold ixN
    simp only [if_pos h0]
    rw [if_pos (by omega)]
  rw [this]
  rfl
section
variable {U : List Int} {st : Sto} {k : Nat}
theorem noted_ok {d : D} {xs : List Int} (hd : Ints st d xs) (hx : ∀ x ∈ xs, x ∈ U) (hU : U.length ≤ 2000000) {G : D → Sto → Prop} (hG : ∀ s n, st.size ≤ n → KS U s n (fun x => x ∈ xs) → Fm [] st s → G (.ref n) s) : Ok (Hd.runs (k + 1) 4 [d] st) G := by
  have hs : SZ = 16777216 := by decide
  show Ok (bodyD _ (Hd.b_noted (Hd.runs k)) _ st) _
  refine ok_body ?_
  unfold Hd.b_noted
  show OkS (seqS _ _ [some d, none, none] st) _
  refine seq_set.mpr ⟨.ref st.size, st.push (.dic []), rfl, ?_⟩
  generalize hs1 : st.push (.dic []) = s1
  have e1 : s1.get st.size = some (.dic (kv [])) := by rw [← hs1]; exact Sto.get_push_new
  have f1 : Fm [] st s1 := by rw [← hs1]; exact Fm.push
  show OkS (seqS _ _ [some d, some (.ref st.size), none] s1) _
  refine seq_for (oks_for (hd.src f1 rfl fun src hn hc => ⟨xs.map D.int, fun i e s => ∃ a2 ys, e = [some d, some (.ref st.size), a2] ∧ s.get st.size = some (.dic (kv ys)) ∧ ys.Nodup ∧ (∀ x, x ∈ ys ↔ x ∈ xs.take i) ∧ Fm [] st s, hc, ⟨none, [], rfl, e1, .nil, by simp, f1⟩, ?_, ?_⟩))
  · rintro i e s d' hd' ⟨a2, ys, rfl, hg, hn1, hm, hf⟩
    have hd2 := hd'
    rw [List.getElem?_map] at hd2
    obtain ⟨x, hx2, rfl⟩ := mapS hd2
    have hxm := List.mem_of_getElem? hx2
    have hyl : ys.length ≤ U.length := nodup_len hn1 fun y hy => hx y (List.mem_of_mem_take ((hm y).mp hy))
    refine ⟨by rw [hn s hf i, hd'], _, s, rfl, ?_⟩
    show OkS (asgS _ _ [some d, some (.ref st.size), some (.int x)] s) _
    refine oks_asg.mpr ⟨_, s, rfl, sub_d.mpr ⟨_, s, rfl, _, s, rfl, _, set_dic hg rfl (by rw [kv_len]; omega), _, _, rfl, ?_, ins_nodup (x := x) hn1, fun y => ?_, fm_new hf (Nat.le_refl _)⟩⟩
    · rw [kv_put]; exact Sto.get_set_same (Sto.get_lt hg)
    · rw [ins_mem, hm, List.take_add_one, hx2, List.mem_append]
      simp
  · rintro e s ⟨a2, ys, rfl, hg, hn1, hm, hf⟩
    rw [List.length_map] at hm ⊢
    rw [List.take_length] at hm
    refine ⟨by rw [hn s hf]; simp, ?_⟩
    exact oks_ret.mpr ⟨_, s, rfl, hG s _ (Nat.le_refl _) ⟨ys, hg, hn1, fun y hy => hx y ((hm y).mp hy), hm⟩ hf⟩
/-- the params' names -/
theorem params_in_ok {j : Nat} (hj : Hd.runs (k + 1) j = bodyD 3 (Hd.b_params_in (Hd.runs k))) {b : Blk} (hz : b.pr.length ≤ SZ) {G : D → Sto → Prop} (hG : ∀ s n, st.size ≤ n → s.get n = some (.lst (b.ps.map .int)) → Fm [] st s → G (.ref n) s) : Ok (Hd.runs (k + 1) j [b.d] st) G := by
  rw [hj]
  refine ok_body ?_
  unfold Hd.b_params_in
  show OkS (retS _ [some b.d, none, none] st) _
  refine oks_ret.mpr (ok_lcm (enc := pD) (y := fun p => .int p.1) (oki_tup (xs := b.pr.map pD) rfl ⟨b.pr, thru_tup, hz, fun p hp s f _ => ⟨_, rfl, rfl, ⟨.int p.1, s, rfl, rfl, Fm.refl⟩⟩, fun s h1 h2 => hG s _ (Nat.le_refl _) ?_ h2⟩))
  rw [h1]
  unfold Blk.ps
  rw [List.map_map]
  rfl
theorem params3_ok {b : Blk} (hz : b.pr.length ≤ SZ) {G : D → Sto → Prop} (hG : ∀ s n, st.size ≤ n → s.get n = some (.lst (b.ps.map .int)) → Fm [] st s → G (.ref n) s) : Ok (Hd.runs (k + 1) 3 [b.d] st) G := params_in_ok rfl hz hG
theorem params32_ok {b : Blk} (hz : b.pr.length ≤ SZ) {G : D → Sto → Prop} (hG : ∀ s n, st.size ≤ n → s.get n = some (.lst (b.ps.map .int)) → Fm [] st s → G (.ref n) s) : Ok (Hd.runs (k + 1) 32 [b.d] st) G := params_in_ok rfl hz hG
/-- what an end asks -/
theorem ends_args_ok {en : En} {G : D → Sto → Prop} (hG : ∀ s n, st.size ≤ n → s.get n = some (.lst (en.asks.map .int)) → Fm [] st s → G (.ref n) s) : Ok (Hd.runs (k + 1) 2 [en.d] st) G := by
  show Ok (bodyD _ (Hd.b_ends_args (Hd.runs k)) _ st) _
  refine ok_body ?_
  unfold Hd.b_ends_args
  show OkS (seqS _ _ [some en.d] st) _
  have fin : ∀ {a : D} {e : Dn.Env} (hz : 1 ≤ SZ), OkS (retS (lstF (consF (cF a) nilF)) e st) (fun r => match r with
    | .rt d s => d = .ref st.size ∧ s = st.push (.lst [a])
    | _ => False) := fun hz => oks_ret.mpr (ok_lst.mpr (ok_cons.mpr ⟨_, st, rfl, ok_nil.mpr ⟨hz, rfl, rfl⟩⟩))
  have z0 : 0 ≤ SZ := by decide
  have z1 : 1 ≤ SZ := by decide
  cases en with
  | jump g as =>
    refine seq_if.mpr (eq_s (a := "jump") (b := "jump") (r := true) rfl rfl (by decide +kernel) (by decide +kernel) (by decide +kernel) ⟨fun _ => seq_ret.mpr (ok_un.mpr ⟨.tup (as.map .int), st, rfl, ?_⟩), fun q => by (cases q)⟩)
    show Ok (listD (.tup (as.map .int)) st) _
    rw [list_t]
    exact ok_some.mpr (hG _ _ (Nat.le_refl _) Sto.get_push_new Fm.push)
  | branch x y n =>
    refine seq_if.mpr (eq_s (a := "branch") (b := "jump") (r := false) rfl rfl (by decide +kernel) (by decide +kernel) (by decide +kernel) ⟨fun q => by (cases q), fun _ => seq_next.mpr (seq_if.mpr (ok_tst.mpr (ok_op.mpr ⟨.str "branch", st, rfl, ok_tup.mpr (ok_cons.mpr ⟨.str "branch", st, rfl, ok_cons.mpr ⟨.str "give", st, rfl, ok_nil.mpr ⟨by show 2 ≤ SZ; decide, ?_⟩⟩⟩)⟩)))⟩)
    rw [in_t, if_pos ⟨rfl, rfl⟩]
    refine ok_some.mpr ⟨true, congrArg D.bl (by decide +kernel), fun _ => seq_ret.mpr (ok_lst.mpr (ok_cons.mpr ⟨.int x, st, rfl, ok_nil.mpr ⟨z1, hG _ _ (Nat.le_refl _) Sto.get_push_new Fm.push⟩⟩)), fun q => by (cases q)⟩
  | give x =>
    refine seq_if.mpr (eq_s (a := "give") (b := "jump") (r := false) rfl rfl (by decide +kernel) (by decide +kernel) (by decide +kernel) ⟨fun q => by (cases q), fun _ => seq_next.mpr (seq_if.mpr (ok_tst.mpr (ok_op.mpr ⟨.str "give", st, rfl, ok_tup.mpr (ok_cons.mpr ⟨.str "branch", st, rfl, ok_cons.mpr ⟨.str "give", st, rfl, ok_nil.mpr ⟨by show 2 ≤ SZ; decide, ?_⟩⟩⟩)⟩)))⟩)
    rw [in_t, if_pos ⟨rfl, rfl⟩]
    refine ok_some.mpr ⟨true, congrArg D.bl (by decide +kernel), fun _ => seq_ret.mpr (ok_lst.mpr (ok_cons.mpr ⟨.int x, st, rfl, ok_nil.mpr ⟨z1, hG _ _ (Nat.le_refl _) Sto.get_push_new Fm.push⟩⟩)), fun q => by (cases q)⟩
  | fail l =>
    refine seq_if.mpr (eq_s (a := "fail") (b := "jump") (r := false) rfl rfl (by decide +kernel) (by decide +kernel) (by decide +kernel) ⟨fun q => by (cases q), fun _ => seq_next.mpr (seq_if.mpr (ok_tst.mpr (ok_op.mpr ⟨.str "fail", st, rfl, ok_tup.mpr (ok_cons.mpr ⟨.str "branch", st, rfl, ok_cons.mpr ⟨.str "give", st, rfl, ok_nil.mpr ⟨by show 2 ≤ SZ; decide, ?_⟩⟩⟩)⟩)))⟩)
    rw [in_t, if_pos ⟨rfl, rfl⟩]
    refine ok_some.mpr ⟨false, congrArg D.bl (by decide +kernel), fun q => by (cases q), fun _ => seq_next.mpr (oks_ret.mpr (ok_lst.mpr (ok_nil.mpr ⟨z0, hG _ _ (Nat.le_refl _) Sto.get_push_new Fm.push⟩)))⟩
/-- where an end leads -/
theorem ends_leads_ok {en : En} {G : D → Sto → Prop} (hG : ∀ s n, st.size ≤ n → s.get n = some (.lst (en.gl.map .int)) → Fm [] st s → G (.ref n) s) : Ok (Hd.runs (k + 1) 0 [en.d] st) G := by
  show Ok (bodyD _ (Hd.b_ends_leads (Hd.runs k)) _ st) _
  refine ok_body ?_
  unfold Hd.b_ends_leads
  show OkS (seqS _ _ [some en.d] st) _
  have z0 : 0 ≤ SZ := by decide
  have z1 : 1 ≤ SZ := by decide
  cases en with
  | jump g as =>
    exact seq_if.mpr (eq_s (a := "jump") (b := "jump") (r := true) rfl rfl (by decide +kernel) (by decide +kernel) (by decide +kernel) ⟨fun _ => seq_ret.mpr (ok_lst.mpr (ok_cons.mpr ⟨.int g, st, rfl, ok_nil.mpr ⟨z1, hG _ _ (Nat.le_refl _) Sto.get_push_new Fm.push⟩⟩)), fun q => by (cases q)⟩)
  | branch x y n =>
    refine seq_if.mpr (eq_s (a := "branch") (b := "jump") (r := false) rfl rfl (by decide +kernel) (by decide +kernel) (by decide +kernel) ⟨fun q => by (cases q), fun _ => seq_next.mpr (seq_if.mpr (eq_s (a := "branch") (b := "branch") (r := true) rfl rfl (by decide +kernel) (by decide +kernel) (by decide +kernel) ⟨fun _ => seq_ret.mpr ?_, fun q => by (cases q)⟩))⟩)
    refine ⟨.ref st.size, st.push (.lst ((srt (ddup [y, n])).map .int)), rfl, hG _ _ (Nat.le_refl _) Sto.get_push_new Fm.push⟩
  | give x =>
    exact seq_if.mpr (eq_s (a := "give") (b := "jump") (r := false) rfl rfl (by decide +kernel) (by decide +kernel) (by decide +kernel) ⟨fun q => by (cases q), fun _ => seq_next.mpr (seq_if.mpr (eq_s (a := "give") (b := "branch") (r := false) rfl rfl (by decide +kernel) (by decide +kernel) (by decide +kernel) ⟨fun q => by (cases q), fun _ => seq_next.mpr (oks_ret.mpr (ok_lst.mpr (ok_nil.mpr ⟨z0, hG _ _ (Nat.le_refl _) Sto.get_push_new Fm.push⟩)))⟩))⟩)
  | fail x =>
    exact seq_if.mpr (eq_s (a := "fail") (b := "jump") (r := false) rfl rfl (by decide +kernel) (by decide +kernel) (by decide +kernel) ⟨fun q => by (cases q), fun _ => seq_next.mpr (seq_if.mpr (eq_s (a := "fail") (b := "branch") (r := false) rfl rfl (by decide +kernel) (by decide +kernel) (by decide +kernel) ⟨fun q => by (cases q), fun _ => seq_next.mpr (oks_ret.mpr (ok_lst.mpr (ok_nil.mpr ⟨z0, hG _ _ (Nat.le_refl _) Sto.get_push_new Fm.push⟩)))⟩))⟩)
/-- where the blocks lead -/
theorem leads_ok {bs : List Blk} {nm kd : D} (hl : bs.length ≤ SZ) {G : D → Sto → Prop} (hG : ∀ s L (gs : List Nat), st.size ≤ L → s.get L = some (.lst (gs.map .ref)) → gs.length = bs.length → (∀ (i : Nat) b g, bs[i]? = some b → gs[i]? = some g → s.get g = some (.lst (b.en.gl.map .int)) ∧ st.size ≤ g) → Fm [] st s → G (.ref L) s) : Ok (Hd.runs (k + 2) 1 [.tup [nm, kd, .tup (bs.map Blk.d)]] st) G := by
  show Ok (bodyD _ (Hd.b_leads (Hd.runs (k + 1))) _ st) _
  refine ok_body ?_
  unfold Hd.b_leads
  show OkS (retS _ [some (.tup [nm, kd, .tup (bs.map Blk.d)]), none] st) _
  refine oks_ret.mpr (ok_lcr (enc := Blk.d) (Rel := fun L b z s => ∃ g, z = .ref g ∧ s.get g = some (.lst (b.en.gl.map .int)) ∧ L < g ∧ st.size ≤ g) (fun L b z s s' ⟨g, h1, h2, h3, h4⟩ f => ⟨g, h1, f.keep h2 (by simp; omega), h3, h4⟩) (oki_tup (xs := bs.map Blk.d) rfl ⟨bs, thru_tup, hl, fun b hb s f hlt => ⟨_, rfl, rfl, ?_⟩, fun s zs h1 f h2 h3 => ?_⟩))
  · exact ok_call.mpr (ok_cons.mpr ⟨b.en.d, s, rfl, ok_nil.mpr ⟨rfl, ends_leads_ok (k := k) fun s' n hn hg f' => ⟨⟨n, rfl, hg, by omega, by have := f.le; omega⟩, f'⟩⟩⟩)
  · have : ∃ gs : List Nat, zs = gs.map D.ref := by
      clear h1
      have hall : ∀ z ∈ zs, ∃ g, z = D.ref g := fun z hz => by
        obtain ⟨i, hi⟩ := List.getElem?_of_mem hz
        have hil := (List.getElem?_eq_some_iff.mp hi).1
        obtain ⟨g, e, _⟩ := h3 i _ z (List.getElem?_eq_getElem (by omega)) hi
        exact ⟨g, e⟩
      clear h2 h3
      induction zs with
      | nil => exact ⟨[], rfl⟩
      | cons z zs ih =>
        obtain ⟨g, rfl⟩ := hall z List.mem_cons_self
        obtain ⟨gs, rfl⟩ := ih fun z hz => hall z (List.mem_cons_of_mem _ hz)
        exact ⟨g :: gs, rfl⟩
    obtain ⟨gs, rfl⟩ := this
    rw [List.length_map] at h2
    refine hG s _ gs (Nat.le_refl _) h1 h2 (fun i b g hb hg => ?_) f
    obtain ⟨g', e, q, _, q2⟩ := h3 i b (.ref g) hb (by rw [List.getElem?_map, hg]; rfl)
    cases e
    exact ⟨q, q2⟩
end
end Mw
/-! What lives behind a block, what lives ahead of it. -/
namespace Mw
open PySem PySem.Spec PyProof.Rows L2 Dn
theorem atI_map {α : Type} {xs : List α} {f : α → D} {j : Nat} {x : α} (h : xs[j]? = some x) : atI (xs.map f) (j : Int) = some (f x) := by
  have hl := (List.getElem?_eq_some_iff.mp h).1
  obtain ⟨y, h1, h2⟩ := atI_ge (xs := xs.map f) (i := (j : Int)) (by omega) (by rw [List.length_map]; omega)
  rw [List.getElem?_map] at h2
  have : ((j : Int)).toNat = j := by omega
  rw [this, h] at h2
  rw [h1]
  exact h2.symm
theorem in_ints {x : Int} : ∀ {ps : List Int}, inSeq (.int x) (ps.map .int) = decide (x ∈ ps)
  | [] => rfl
  | y :: ps => by
    have ih := @in_ints x ps
    unfold inSeq at ih ⊢
    rw [List.map_cons, List.any_cons, ih]
    have : eqF1 (.int y) (.int x) = (y == x) := rfl
    rw [this]
    by_cases h : y = x
    · subst h; simp
    · have h2 : x ≠ y := fun e => h e.symm
      simp [h, h2]
theorem flat_ints : ∀ {ps : List Int}, (ps.map D.int).all flatD = true
  | [] => rfl
  | y :: ps => by
    rw [List.map_cons, List.all_cons, flat_ints (ps := ps)]
    rfl
theorem in_ref {neg : Bool} {x : Int} {n : Nat} {ps : List Int} {s : Sto} (h : s.get n = some (.lst (ps.map .int))) : inD neg (.int x) (.ref n) s = some (.bl (if neg then !decide (x ∈ ps) else decide (x ∈ ps)), s) := by
  rw [in_r, h]
  simp only
  rw [if_pos ⟨rfl, flat_ints⟩, in_ints]
theorem in_tup {neg : Bool} {x : Int} {ps : List Int} {s : Sto} : inD neg (.int x) (.tup (ps.map .int)) s = some (.bl (if neg then !decide (x ∈ ps) else decide (x ∈ ps)), s) := by
  rw [in_t, if_pos ⟨rfl, flat_ints⟩, in_ints]
theorem ok_lock {fd fe : M D} {env : Dn.Env} {st s0 : Sto} {n : Nat} {kvs : List (Key × D)} {Q : D → Sto → Prop} (h1 : fd env st = some (.ref n, s0)) (h2 : st.get n = some (.dic kvs))
    (h : Ok (fe env (st.set n (.frd kvs))) fun d s2 => (∃ kvs2, s2.get n = some (.frd kvs2)) ∧ Q d (s2.set n (.dic kvs))) : Ok (lockF fd fe env st) Q := by
  obtain ⟨d, s2, e, ⟨kvs2, e2⟩, q⟩ := h
  refine ⟨d, s2.set n (.dic kvs), ?_, q⟩
  unfold lockF
  simp only [h1, h2, e, e2]
theorem thru_keys {n : Nat} {s1 : Sto} {xs : List Int} (h : s1.get n = some (.frd (kv xs))) : Thru (.keys n) s1.size s1 (xs.map .int) := by
  refine ⟨fun s hs i => ?_, ?_⟩
  · show (match s.get n with
      | some (.frd kvs) => some ((kvs[i]?).map fun (e : Key × D) => kD e.1)
      | _ => none) = _
    rw [hs n (Sto.get_lt h), h]
    simp only
    unfold kv
    rw [List.getElem?_map, List.getElem?_map, Option.map_map]
    rfl
  · show (match s1.get n with
      | some (.frd kvs) => some kvs.length
      | _ => none) = _
    rw [h]
    simp only
    rw [kv_len, List.length_map]
theorem set_dic_back {s s2 : Sto} {n : Nat} {o o' : O} (h : s.get n = some o) (f : Fm [] (s.set n o') s2) : Fm [] s (s2.set n o) := by
  have hn := Sto.get_lt h
  refine ⟨by have := f.le; rw [Sto.size_set] at this ⊢; exact this, fun i hi _ => ?_⟩
  have hs : (s.set n o').size = s.size := Sto.size_set _ _ _
  have hl := f.le
  rw [hs] at hl
  rw [get_set (by omega)]
  by_cases e : i = n
  · subst e; rw [if_pos rfl, h]
  · rw [if_neg e, f.get i (by omega) (by simp), Sto.get_set_ne e]
section
variable {U : List Int} {st s : Sto} {k A B : Nat} {p q : Int → Prop}
theorem KS.len (h : KS U s A p) : ∃ xs : List Int, s.get A = some (.dic (kv xs)) ∧ xs.length ≤ U.length := let ⟨xs, h1, h2, h3, _⟩ := h; ⟨xs, h1, nodup_len h2 h3⟩
theorem upd_ks (hU : U.length ≤ 2000000) (ha : KS U s A p) (hb : KS U s B q) (hne : A ≠ B) : ∃ s', updateD (.ref A) [.ref B] s = some (.non, s') ∧ KS U s' A (fun x => p x ∨ q x) ∧ Fm [A] s s' ∧ s'.size = s.size := by
  have hs : SZ = 16777216 := by decide
  obtain ⟨xs, a1, a2, a3, a4⟩ := ha
  obtain ⟨ys, b1, b2, b3, b4⟩ := hb
  have l1 := nodup_len a2 a3
  have l2 := nodup_len b2 b3
  refine ⟨s.set A (.dic (kv (mrg xs ys))), ?_, ⟨mrg xs ys, Sto.get_set_same (Sto.get_lt a1), mrg_nodup a2, fun x hx => ?_, fun x => by rw [mrg_mem, a4, b4]⟩, Fm.set (.inl (by simp)), Sto.size_set _ _ _⟩
  · unfold updateD
    simp only [a1, b1]
    rw [if_pos ⟨hne, by rw [kv_len, kv_len]; omega⟩, kv_merge]
  · rcases mrg_mem.mp hx with hx | hx
    · exact a3 x hx
    · exact b3 x hx
theorem pop_ks {o : Option Int} (ha : KS U s A p) : ∃ d s', pop2D (.ref A) (oI o) .non s = some (d, s') ∧ KS U s' A (fun x => p x ∧ o ≠ some x) ∧ Fm [A] s s' ∧ s'.size = s.size := by
  obtain ⟨xs, a1, a2, a3, a4⟩ := ha
  cases o with
  | none =>
    refine ⟨.non, s, ?_, ⟨xs, a1, a2, a3, fun x => by rw [a4]; simp⟩, Fm.refl, rfl⟩
    show pop2D (.ref A) .non .non s = _
    unfold pop2D
    simp only [a1]
  | some y =>
    by_cases hy : y ∈ xs
    · refine ⟨.bl true, s.set A (.dic (kv (xs.filter fun z => decide (z ≠ y)))), ?_, ⟨_, Sto.get_set_same (Sto.get_lt a1), List.Pairwise.filter _ a2, fun x hx => a3 x (List.mem_filter.mp hx).1, fun x => ?_⟩, Fm.set (.inl (by simp)), Sto.size_set _ _ _⟩
      · show pop2D (.ref A) (.int y) .non s = _
        unfold pop2D
        simp only [a1, key_i, Option.map_some, kv_get, if_pos hy, kv_drop]
      · rw [List.mem_filter, a4]
        simp only [decide_eq_true_eq, Option.some.injEq, ne_eq]
        exact and_congr Iff.rfl ⟨fun h e => h e.symm, fun h e => h e.symm⟩
    · refine ⟨.non, s, ?_, ⟨xs, a1, a2, a3, fun x => ?_⟩, Fm.refl, rfl⟩
      · show pop2D (.ref A) (.int y) .non s = _
        unfold pop2D
        simp only [a1, key_i, Option.map_some, kv_get, if_neg hy]
      · show x ∈ xs ↔ p x ∧ some y ≠ some x
        rw [← a4]
        constructor
        · intro h
          refine ⟨h, fun e => ?_⟩
          cases e
          exact hy h
        · exact fun h => h.1
/-- what was found up to now -/
structure Fnd (U : List Int) (s : Sto) (F : Nat) (rs : List Nat) (p : Nat → Int → Prop) : Prop where
  lst : s.get F = some (.lst (rs.map .ref))
  ks : ∀ (i n : Nat), rs[i]? = some n → KS U s n (p i)
theorem Fnd.fm {F : Nat} {rs : List Nat} {p : Nat → Int → Prop} {s' : Sto} (h : Fnd U s F rs p) (f : Fm [] s s') : Fnd U s' F rs p := ⟨f.keep h.lst (by simp), fun i n hn => (h.ks i n hn).fm f (by simp)⟩
theorem behind_ok {F Gn : Nat} {rs : List Nat} {p : Nat → Int → Prop} {bs : List Blk} {b : Blk} (hU : U.length ≤ 2000000) (hF : Fnd U st F rs p) (hl : rs.length = bs.length) (hG0 : st.get Gn = some (.lst (b.en.gl.map .int)))
    (hb : ∀ g ∈ b.en.goals, 0 ≤ g ∧ g < bs.length) (hz : ∀ c ∈ bs, c.pr.length ≤ SZ) {G : D → Sto → Prop} (hG : ∀ s n, st.size ≤ n → KS U s n (Bhd bs b p) → Fm [] st s → G (.ref n) s) : Ok (Hd.runs (k + 2) 5 [.tup (bs.map Blk.d), .ref Gn, .ref F] st) G := by
  have hs : SZ = 16777216 := by decide
  show Ok (bodyD _ (Hd.b_living_behind (Hd.runs (k + 1))) _ st) _
  refine ok_body ?_
  unfold Hd.b_living_behind
  show OkS (seqS _ _ [some (.tup (bs.map Blk.d)), some (.ref Gn), some (.ref F), none, none, none, none] st) _
  refine seq_set.mpr ⟨.ref st.size, st.push (.dic []), rfl, ?_⟩
  generalize hs1 : st.push (.dic []) = s1
  have e1 : s1.get st.size = some (.dic (kv [])) := by rw [← hs1]; exact Sto.get_push_new
  have f1 : Fm [] st s1 := by rw [← hs1]; exact Fm.push
  generalize hA : st.size = A at e1
  have hA0 : st.size ≤ A := by omega
  have hin : Ints st (.ref Gn) b.en.gl := .inr ⟨_, rfl, hG0⟩
  show OkS (seqS _ _ [some (.tup (bs.map Blk.d)), some (.ref Gn), some (.ref F), some (.ref A), none, none, none] s1) _
  refine seq_for (oks_for (hin.src f1 rfl fun src hn hc => ⟨b.en.gl.map D.int, fun i e s => ∃ a4 a5, e = [some (.tup (bs.map Blk.d)), some (.ref Gn), some (.ref F), some (.ref A), a4, a5, none] ∧ KS U s A (fun x => ∃ (j : Nat) (c : Blk), (j : Int) ∈ b.en.gl.take i ∧ bs[j]? = some c ∧ x ∉ c.ps ∧ p j x) ∧ Fm [] st s, hc, ⟨none, none, rfl, ⟨[], e1, .nil, by simp, by simp⟩, f1⟩, ?_, ?_⟩))
  · rintro i e s d hd ⟨a4, a5, rfl, hks, hf⟩
    have hd2 := hd
    rw [List.getElem?_map] at hd2
    obtain ⟨g, hg, rfl⟩ := mapS hd2
    have hgm := List.mem_of_getElem? hg
    obtain ⟨g0, g1⟩ := hb g (En.gl_mem.mp hgm)
    obtain ⟨j, rfl⟩ : ∃ j : Nat, g = (j : Int) := ⟨g.toNat, by omega⟩
    have hj : j < bs.length := by omega
    have hc : bs[j]? = some bs[j] := List.getElem?_eq_getElem hj
    have hcm : bs[j] ∈ bs := List.getElem_mem hj
    generalize bs[j] = c at hc hcm
    have hr : rs[j]? = some rs[j] := List.getElem?_eq_getElem (by omega)
    generalize rs[j] = r at hr
    refine ⟨by rw [hn s hf i, hd], _, s, rfl, ?_⟩
    show OkS (seqS _ _ [some (.tup (bs.map Blk.d)), some (.ref Gn), some (.ref F), some (.ref A), some (.int (j : Int)), a5, none] s) _
    refine seq_set.mpr (ok_call.mpr (ok_cons.mpr (ok_op.mpr ⟨_, s, rfl, _, s, rfl, ?_⟩)))
    show Ok (getD (.tup (bs.map Blk.d)) (.int (j : Int)) s) _
    rw [get_ti, atI_map hc]
    refine ok_some.mpr (ok_nil.mpr ⟨rfl, params3_ok (k := k) (hz c hcm) fun s2 n2 hn2 hg2 f2 => ?_⟩)
    show OkS (exprS _ [some (.tup (bs.map Blk.d)), some (.ref Gn), some (.ref F), some (.ref A), some (.int (j : Int)), some (.ref n2), none] s2) _
    have hF2 := hF.fm (hf.nil f2)
    have hks2 := hks.fm f2 (by simp)
    obtain ⟨xs, d1, d2⟩ := hks2
    refine oks_expr.mpr (ok_meth.mpr ⟨_, s2, rfl, isDk_of d1, ok_cons.mpr (ok_call.mpr (ok_cons.mpr ?_))⟩)
    have hks2 : KS U s2 A _ := ⟨xs, d1, d2⟩
    obtain ⟨ys, y1, y2, y3, y4⟩ := hF2.ks j r hr
    have fdg : ∀ s : Sto, s.get F = some (.lst (rs.map .ref)) → opF getD (varF 2) (varF 4) [some (.tup (bs.map Blk.d)), some (.ref Gn), some (.ref F), some (.ref A), some (.int (j : Int)), some (.ref n2), none] s = some (.ref r, s) := fun s h => by
      show getD (.ref F) (.int (j : Int)) s = _
      rw [get_ri, h]
      simp only
      rw [atI_map hr]
      rfl
    have hrF : F ≠ r := by
      rintro rfl
      rw [hF2.lst] at y1
      cases y1
    have hrn : n2 ≠ r := by
      rintro rfl
      rw [hg2] at y1
      cases y1
    refine ok_lock (fdg s2 hF2.lst) y1 ?_
    generalize hs3 : s2.set r (.frd (kv ys)) = s3
    have l3 : s3.get F = some (.lst (rs.map .ref)) := by rw [← hs3, Sto.get_set_ne hrF]; exact hF2.lst
    have k3 : s3.get r = some (.frd (kv ys)) := by rw [← hs3]; exact Sto.get_set_same (Sto.get_lt y1)
    have p3 : s3.get n2 = some (.lst (c.ps.map .int)) := by rw [← hs3, Sto.get_set_ne hrn]; exact hg2
    have yl := nodup_len y2 y3
    refine ok_lcp (enc := D.int) (p := fun x => decide (x ∉ c.ps)) (y := D.int) ⟨.keys r, s3, ?_, ys, thru_keys k3, by omega, fun x hx s' hs' => ⟨_, rfl, ?_⟩, ⟨_, (Sto.get_push_lt (Sto.get_lt k3)).trans k3⟩, ?_⟩
    · unfold keysF
      rw [fdg s3 l3, Option.bind_some]
      simp only [k3]
    · refine ok_tst.mpr (ok_op.mpr ⟨_, s', rfl, _, s', rfl, ?_⟩)
      show Ok (inD true (.int x) (.ref n2) s') _
      rw [in_ref ((hs' n2 (Sto.get_lt p3)).trans p3)]
      refine ok_some.mpr ⟨_, rfl, rfl, by simp, fun hx => ⟨_, s', rfl, rfl, rfl⟩⟩
    · refine ok_nil.mpr ⟨rfl, ?_⟩
      have f3 : Fm [] s2 ((s3.push (.lst ((ys.filter fun x => decide (x ∉ c.ps)).map D.int))).set r (.dic (kv ys))) := set_dic_back y1 (by rw [hs3]; exact Fm.push)
      have g3 : ((s3.push (.lst ((ys.filter fun x => decide (x ∉ c.ps)).map D.int))).set r (.dic (kv ys))).get s3.size = some (.lst ((ys.filter fun x => decide (x ∉ c.ps)).map D.int)) := by
        rw [Sto.get_set_ne (by have := Sto.get_lt k3; omega)]
        exact Sto.get_push_new
      generalize (s3.push (.lst ((ys.filter fun x => decide (x ∉ c.ps)).map D.int))).set r (.dic (kv ys)) = s4 at f3 g3
      refine noted_ok (k := k) (U := U) (.inr ⟨_, rfl, g3⟩) (fun x hx => y3 x (List.mem_filter.mp hx).1) hU fun s5 n5 hn5 hk5 f5 => ok_nil.mpr ?_
      have hA5 := (hks2.fm f3 (by simp)).fm f5 (by simp)
      have hAn : A ≠ n5 := by
        have := hks2.lt
        have := f3.le
        omega
      obtain ⟨s6, u1, u2, u3, u4⟩ := upd_ks hU hA5 hk5 hAn
      rw [u1]
      refine ok_some.mpr ⟨_, _, rfl, u2.iff fun x => ?_, ?_⟩
      · rw [List.mem_filter, y4]
        simp only [decide_eq_true_eq]
        constructor
        · rintro (⟨j', c', h1, h2⟩ | ⟨h1, h2⟩)
          · exact ⟨j', c', by rw [List.take_add_one]; exact List.mem_append.mpr (.inl h1), h2⟩
          · exact ⟨j, c, by rw [List.take_add_one, hg]; exact List.mem_append.mpr (.inr (by simp)), hc, h2, h1⟩
        · rintro ⟨j', c', h1, h2, h3⟩
          rw [List.take_add_one, hg] at h1
          rcases List.mem_append.mp h1 with h1 | h1
          · exact .inl ⟨j', c', h1, h2, h3⟩
          · have : j' = j := Int.ofNat.inj (by simpa using h1)
            subst this
            rw [hc] at h2
            cases h2
            exact .inr ⟨h3.2, h3.1⟩
      · exact ((hf.nil f2).nil (f3.nil f5)).trans u3 fun i hi => .inr (by rw [List.mem_singleton.mp hi]; exact hA0)
  · rintro e s ⟨a4, a5, rfl, hks, hf⟩
    rw [List.length_map] at hks ⊢
    rw [List.take_length] at hks
    refine ⟨by rw [hn s hf]; simp, ?_⟩
    exact oks_ret.mpr ⟨_, s, rfl, hG s _ hA0 (hks.iff fun x => by
      unfold Bhd
      simp only [En.gl_mem]) hf⟩
theorem next_rev {xs : List D} {i : Nat} {s : Sto} : nextD (.revT xs) i s = some (xs.reverse[i]?) := by
  show (if i < xs.length then (xs[xs.length - 1 - i]?).map some else some none) = _
  by_cases h : i < xs.length
  · rw [if_pos h, List.getElem?_reverse h, List.getElem?_eq_getElem (by omega)]
    rfl
  · rw [if_neg h, List.getElem?_eq_none (by rw [List.length_reverse]; omega)]
theorem ahead_ok {b : Blk} {n : Nat} (hU : U.length ≤ 2000000) (hK : KS U st n q) (hu : UsB U b) {G : D → Sto → Prop} (hG : ∀ s m, st.size ≤ m → KS U s m (Ahd b q) → Fm [] st s → G (.ref m) s) : Ok (Hd.runs (k + 2) 6 [b.d, .ref n] st) G := by
  have hs : SZ = 16777216 := by decide
  show Ok (bodyD _ (Hd.b_living_ahead (Hd.runs (k + 1))) _ st) _
  refine ok_body ?_
  unfold Hd.b_living_ahead
  show OkS (seqS _ _ [some b.d, some (.ref n), none, none] st) _
  obtain ⟨xs, x1, x2, x3, x4⟩ := hK
  refine seq_set.mpr (ok_un.mpr ⟨.ref n, st, rfl, ?_⟩)
  show Ok (dictD (.ref n) st) _
  rw [dict_r]
  have : st.map n = some (kv xs) := by unfold Sto.map; rw [x1]; rfl
  rw [this]
  refine ok_some.mpr ?_
  generalize hs1 : st.push (.dic (kv xs)) = s1
  have f1 : Fm [] st s1 := by rw [← hs1]; exact Fm.push
  have k1 : KS U s1 st.size q := ⟨xs, by rw [← hs1]; exact Sto.get_push_new, x2, x3, x4⟩
  generalize hA : st.size = A at k1
  have hA0 : st.size ≤ A := by omega
  show OkS (seqS _ _ [some b.d, some (.ref n), some (.ref A), none] s1) _
  refine seq_expr.mpr (ok_meth.mpr ⟨_, s1, rfl, isDk_of k1.choose_spec.1, ok_cons.mpr (ok_call.mpr (ok_cons.mpr (ok_call.mpr (ok_cons.mpr ⟨b.en.d, s1, rfl, ok_nil.mpr ⟨rfl, ends_args_ok (k := k) fun s2 n2 hn2 hg2 f2 => ok_nil.mpr ⟨rfl, noted_ok (k := k) (U := U) (.inr ⟨_, rfl, hg2⟩) hu.2 hU fun s3 n3 hn3 hk3 f3 => ok_nil.mpr ?_⟩⟩⟩))))⟩)
  have k3 := (k1.fm f2 (by simp)).fm f3 (by simp)
  have hl2 := f2.le
  have hl1 := k1.lt
  obtain ⟨s4, u1, u2, u3, u4⟩ := upd_ks hU k3 hk3 (by omega)
  rw [u1]
  refine ok_some.mpr ?_
  have f4 : Fm [] st s4 := (f1.nil (f2.nil f3)).trans u3 fun i hi => .inr (by rw [List.mem_singleton.mp hi]; exact hA0)
  show OkS (seqS _ _ [some b.d, some (.ref n), some (.ref A), none] s4) _
  refine seq_for (oks_for ⟨.revT (b.rows.map Rw.d), s4, rfl, (b.rows.map Rw.d).reverse, fun i e s => ∃ a3, e = [some b.d, some (.ref n), some (.ref A), a3] ∧ KS U s A (AhR (b.rows.drop (b.rows.length - i)) fun x => q x ∨ x ∈ b.en.asks) ∧ Fm [] st s, by show some _ = _; rw [List.length_reverse], ⟨none, rfl, u2.iff fun x => ?_, f4⟩, ?_, ?_⟩)
  · rw [Nat.sub_zero, List.drop_length]
    unfold AhR
    simp [metR]
  · rintro i e s d hd ⟨a3, rfl, hks, hf⟩
    refine ⟨by rw [next_rev, hd], ?_⟩
    have hil : i < b.rows.length := by
      have := (List.getElem?_eq_some_iff.mp hd).1
      simpa using this
    rw [List.getElem?_reverse (by simpa using hil), List.getElem?_map, List.length_map] at hd
    obtain ⟨r, hr, rfl⟩ := mapS hd
    have hrm := List.mem_of_getElem? hr
    have hdrop : b.rows.drop (b.rows.length - (i + 1)) = r :: b.rows.drop (b.rows.length - i) := by
      have e1 : b.rows.length - (i + 1) = b.rows.length - 1 - i := by omega
      have e2 : b.rows.length - i = b.rows.length - 1 - i + 1 := by omega
      obtain ⟨hlt, hr2⟩ := List.getElem?_eq_some_iff.mp hr
      rw [e1, e2, List.drop_eq_getElem_cons hlt, hr2]
    refine ⟨_, s, rfl, ?_⟩
    show OkS (seqS _ _ [some b.d, some (.ref n), some (.ref A), some r.d] s) _
    obtain ⟨pd, s5, p1, p2, p3, p4⟩ := pop_ks (o := r.x) hks
    have f5 : Fm [] st s5 := hf.trans p3 fun i hi => .inr (by rw [List.mem_singleton.mp hi]; exact hA0)
    refine seq_expr.mpr ⟨pd, s5, ?_, ?_⟩
    · unfold pop2F
      show (some (D.ref A, s)).bind _ = _
      rw [Option.bind_some]
      rw [if_pos (isDk_of hks.choose_spec.1)]
      exact p1
    show OkS (exprS _ [some b.d, some (.ref n), some (.ref A), some r.d] s5) _
    refine oks_expr.mpr (ok_meth.mpr ⟨_, s5, rfl, isDk_of p2.choose_spec.1, ok_cons.mpr (ok_call.mpr (ok_cons.mpr ⟨.tup (r.args.map .int), s5, rfl, ok_nil.mpr ⟨rfl, noted_ok (k := k) (U := U) (.inl rfl) (hu.1 r hrm) hU fun s6 n6 hn6 hk6 f6 => ok_nil.mpr ?_⟩⟩))⟩)
    have k6 := p2.fm f6 (by simp)
    have := p2.lt
    obtain ⟨s7, v1, v2, v3, v4⟩ := upd_ks hU k6 hk6 (by omega)
    rw [v1]
    refine ok_some.mpr ⟨_, rfl, v2.iff fun x => ?_, (f5.nil f6).trans v3 fun i hi => .inr (by rw [List.mem_singleton.mp hi]; exact hA0)⟩
    rw [hdrop, AhR.cons]
    constructor
    · rintro (⟨h1, h2⟩ | h)
      · exact .inr ⟨h2, h1⟩
      · exact .inl h
    · rintro (h | ⟨h1, h2⟩)
      · exact .inr h
      · exact .inl ⟨h2, h1⟩
  · rintro e s ⟨a3, rfl, hks, hf⟩
    rw [List.length_reverse, List.length_map] at hks ⊢
    rw [Nat.sub_self, List.drop_zero] at hks
    refine ⟨by rw [next_rev]; simp, ?_⟩
    exact oks_ret.mpr ⟨_, s, rfl, hG s _ hA0 (hks.iff fun x => Ahd.iff.symm) hf⟩
end
end Mw
/-! The fixpoint: living. -/
namespace Mw
open PySem PySem.Spec PyProof.Rows L2 Dn
/-- the list of sets, as lists -/
structure FndL (U : List Int) (s : Sto) (F : Nat) (rs : List Nat) (xss : List (List Int)) : Prop where
  lst : s.get F = some (.lst (rs.map .ref))
  len : xss.length = rs.length
  ks : ∀ (i n : Nat) (xs : List Int), rs[i]? = some n → xss[i]? = some xs → s.get n = some (.dic (kv xs))
  nd : ∀ xs ∈ xss, xs.Nodup ∧ ∀ x ∈ xs, x ∈ U
def pX (xss : List (List Int)) (i : Nat) (x : Int) : Prop := ∃ xs, xss[i]? = some xs ∧ x ∈ xs
theorem FndL.fnd {U : List Int} {s : Sto} {F : Nat} {rs : List Nat} {xss : List (List Int)} (h : FndL U s F rs xss) : Fnd U s F rs (pX xss) := by
  refine ⟨h.lst, fun i n hn => ?_⟩
  have hil := (List.getElem?_eq_some_iff.mp hn).1
  have hx : xss[i]? = some (xss[i]'(by rw [h.len]; exact hil)) := List.getElem?_eq_getElem _
  generalize xss[i]'(by rw [h.len]; exact hil) = xs at hx
  obtain ⟨h1, h2⟩ := h.nd xs (List.mem_of_getElem? hx)
  refine ⟨xs, h.ks i n xs hn hx, h1, h2, fun x => ⟨fun q => ⟨xs, hx, q⟩, ?_⟩⟩
  rintro ⟨ys, hy, q⟩
  rw [hx] at hy
  cases hy
  exact q
theorem FndL.fm {U : List Int} {s s' : Sto} {F : Nat} {rs : List Nat} {xss : List (List Int)} (h : FndL U s F rs xss) (f : Fm [] s s') : FndL U s' F rs xss :=
  ⟨f.keep h.lst (by simp), h.len, fun i n xs h1 h2 => f.keep (h.ks i n xs h1 h2) (by simp), h.nd⟩
/-- block j has nothing more to tell -/
def ClAt (bs : List Blk) (xss : List (List Int)) (j : Nat) : Prop := ∀ b, bs[j]? = some b → ∀ x, Ahd b (Bhd bs b (pX xss)) x → pX xss j x
structure LI (U : List Int) (bs : List Blk) (s0 s : Sto) (F : Nat) (rs : List Nat) (xss : List (List Int)) : Prop where
  fl : FndL U s F rs xss
  len : rs.length = bs.length
  sound : ∀ i x, pX xss i x → Lv bs x i
  post : ∀ i b x, bs[i]? = some b → pX xss i x → Ahd b (Bhd bs b (pX xss)) x
  fm : Fm [] s0 s
theorem LI.tot {U : List Int} {bs : List Blk} {s0 s : Sto} {F : Nat} {rs : List Nat} {xss : List (List Int)} (h : LI U bs s0 s F rs xss) : tot xss ≤ bs.length * U.length := by
  have := tot_le (xss := xss) (m := U.length) fun xs hx => nodup_len (h.fl.nd xs hx).1 (h.fl.nd xs hx).2
  rw [h.fl.len, h.len] at this
  exact this
theorem pX_set {xss : List (List Int)} {ys xs : List Int} {j i : Nat} {x : Int} (hj : xss[j]? = some xs) : pX (xss.set j ys) i x ↔ (if i = j then x ∈ ys else pX xss i x) := by
  unfold pX
  have hjl := (List.getElem?_eq_some_iff.mp hj).1
  by_cases e : i = j
  · subst e
    rw [if_pos rfl, List.getElem?_set_self hjl]
    constructor
    · rintro ⟨zs, h1, h2⟩
      cases h1
      exact h2
    · exact fun h => ⟨ys, rfl, h⟩
  · rw [if_neg e, List.getElem?_set_ne (Ne.symm e)]
theorem sorted_dic {n : Nat} {s : Sto} {xs : List Int} (h : s.get n = some (.dic (kv xs))) : sortedD (.ref n) s = some (.ref s.size, s.push (.lst ((srt xs).map .int))) := by
  show (match s.get n with
    | some (.lst xs) => (intsD xs).map fun ns => (D.ref s.size, s.push (.lst ((srt ns).map D.int)))
    | some (.frl xs) => (intsD xs).map fun ns => (.ref s.size, s.push (.lst ((srt ns).map D.int)))
    | some (.dic kvs) => (keysI kvs).map fun ns => (.ref s.size, s.push (.lst ((srt ns).map D.int)))
    | some (.frd kvs) => (keysI kvs).map fun ns => (.ref s.size, s.push (.lst ((srt ns).map D.int)))
    | _ => none) = _
  rw [h]
  simp only [kv_keys, Option.map_some]
section
variable {U : List Int} {st : Sto} {k : Nat}
theorem ok_newF {env : Dn.Env} {Q : D → Sto → Prop} (h : Q (.ref st.size) (st.push (.dic []))) : Ok (newF env st) Q := ⟨_, _, rfl, h⟩
theorem refs_of {zs : List D} (h : ∀ z ∈ zs, ∃ g, z = D.ref g) : ∃ gs : List Nat, zs = gs.map D.ref := by
  induction zs with
  | nil => exact ⟨[], rfl⟩
  | cons z zs ih =>
    obtain ⟨g, rfl⟩ := h z List.mem_cons_self
    obtain ⟨gs, rfl⟩ := ih fun z hz => h z (List.mem_cons_of_mem _ hz)
    exact ⟨g :: gs, rfl⟩
def livB (c : Nat → FnD) : SM := (seqS (setS 6 (callF 2 (c 6) (consF (opF getD (varF 1) (varF 5)) (consF (callF 3 (c 5) (consF (varF 1) (consF (opF getD (varF 2) (varF 5)) (consF (varF 3) nilF)))) nilF))))
  (ifS (tstF (opF neDicD (varF 6) (opF getD (varF 3) (varF 5)))) (seqS (asgS (varF 6) (subG (varF 3) (varF 5)))
  (setS 4 (cF (.bl true)))) (nextS)))
theorem dicts_ok {bs : List Blk} {nm kd : D} (hU : U.length ≤ 2000000) (hl : bs.length ≤ 1000) (hz : ∀ c ∈ bs, c.pr.length ≤ SZ) (hb : ∀ b ∈ bs, ∀ g ∈ b.en.goals, 0 ≤ g ∧ g < bs.length) (hu : ∀ b ∈ bs, UsB U b)
    {G : D → Sto → Prop} (hG : ∀ s F rs, st.size ≤ F → rs.length = bs.length → Fnd U s F rs (fun i x => Lv bs x i) → Fm [] st s → G (.ref F) s) : Ok (Hd.runs (k + 3) 7 [.tup [nm, kd, .tup (bs.map Blk.d)]] st) G := by
  have hs : SZ = 16777216 := by decide
  show Ok (bodyD _ (Hd.b_living_dicts (Hd.runs (k + 2))) _ st) _
  refine ok_body ?_
  unfold Hd.b_living_dicts
  show OkS (seqS _ _ [some (.tup [nm, kd, .tup (bs.map Blk.d)]), none, none, none, none, none, none, none] st) _
  generalize hfn : D.tup [nm, kd, .tup (bs.map Blk.d)] = fn
  refine seq_set.mpr ⟨.tup (bs.map Blk.d), st, by rw [← hfn]; rfl, ?_⟩
  show OkS (seqS _ _ [some fn, some (.tup (bs.map Blk.d)), none, none, none, none, none, none] st) _
  refine seq_set.mpr (ok_call.mpr (ok_cons.mpr ⟨fn, st, rfl, ok_nil.mpr ⟨rfl, ?_⟩⟩))
  rw [← hfn]
  refine leads_ok (k := k) (by omega) fun s1 L gs hL gL lL hgs f1 => ?_
  rw [hfn]
  show OkS (seqS _ _ [some fn, some (.tup (bs.map Blk.d)), some (.ref L), none, none, none, none, none] s1) _
  refine seq_set.mpr (ok_lcr (enc := Blk.d) (Rel := fun L b z s => ∃ g, z = .ref g ∧ s.get g = some (.dic (kv [])) ∧ L < g) (fun L b z s s' ⟨g, h1, h2, h3⟩ f => ⟨g, h1, f.keep h2 (by simp; omega), h3⟩) (oki_tup (xs := bs.map Blk.d) rfl ⟨bs, thru_tup, by omega, fun b hb s f hlt => ⟨_, rfl, rfl, ok_newF ⟨⟨s.size, rfl, Sto.get_push_new, hlt⟩, Fm.push⟩⟩, fun s2 zs gz f2 lz hz2 => ?_⟩))
  obtain ⟨rs0, rfl⟩ := refs_of (zs := zs) fun z hz => by
    obtain ⟨i, hi⟩ := List.getElem?_of_mem hz
    have hil := (List.getElem?_eq_some_iff.mp hi).1
    obtain ⟨g, e, _⟩ := hz2 i _ z (List.getElem?_eq_getElem (by omega)) hi
    exact ⟨g, e⟩
  rw [List.length_map] at lz
  generalize hF : s1.size = F at gz hz2
  have hF1 : s1.size ≤ F := by omega
  have gsOk : ∀ s, Fm [] s1 s → ∀ (i : Nat) b, bs[i]? = some b → ∃ g, gs[i]? = some g ∧ s.get g = some (.lst (b.en.gl.map .int)) := fun s f i b hbi => by
    have hil := (List.getElem?_eq_some_iff.mp hbi).1
    have e : gs[i]? = some (gs[i]'(by rw [lL]; exact hil)) := List.getElem?_eq_getElem _
    exact ⟨_, e, f.keep (hgs i b _ hbi e).1 (by simp)⟩
  have gLOk : ∀ s, Fm [] s1 s → s.get L = some (.lst (gs.map .ref)) := fun s f => f.keep gL (by simp)
  show OkS (seqS _ _ [some fn, some (.tup (bs.map Blk.d)), some (.ref L), some (.ref F), none, none, none, none] s2) _
  refine seq_set.mpr ⟨_, s2, rfl, ?_⟩
  show OkS (seqS _ _ [some fn, some (.tup (bs.map Blk.d)), some (.ref L), some (.ref F), some (.bl true), none, none, none] s2) _
  have init : LI U bs s1 s2 F rs0 (List.replicate bs.length []) := by
    have hno : ∀ i x, ¬ pX (List.replicate bs.length []) i x := by
      rintro i x ⟨xs, h1, h2⟩
      have := List.eq_of_mem_replicate (List.mem_of_getElem? h1)
      rw [this] at h2
      cases h2
    refine ⟨⟨gz, by rw [List.length_replicate]; omega, fun i n xs h1 h2 => ?_, fun xs hx => ?_⟩, lz, fun i x h => (hno i x h).elim, fun i b x _ h => (hno i x h).elim, f2⟩
    · have := List.eq_of_mem_replicate (List.mem_of_getElem? h2)
      subst this
      have hil := (List.getElem?_eq_some_iff.mp h1).1
      obtain ⟨g, e, q, _⟩ := hz2 i bs[i] (.ref n) (List.getElem?_eq_getElem (by omega)) (by rw [List.getElem?_map, h1]; rfl)
      cases e
      exact q
    · rw [List.eq_of_mem_replicate hx]
      exact ⟨.nil, by simp⟩
  have big : bs.length * U.length ≤ 2000000000 := by
    have h1 : bs.length * U.length ≤ 1000 * 2000000 := Nat.mul_le_mul hl hU
    exact h1
  refine seq_while (oks_while (fun m e s => ∃ ch a5 a6 rs xss, e = [some fn, some (.tup (bs.map Blk.d)), some (.ref L), some (.ref F), some (.bl ch), a5, a6, none] ∧ LI U bs s1 s F rs xss ∧ (ch = false → ∀ j, ClAt bs xss j) ∧ m = bs.length * U.length - tot xss + (if ch = true then 1 else 0)) (m := bs.length * U.length - tot (List.replicate bs.length []) + 1) (by omega) ⟨true, none, none, rs0, _, rfl, init, fun h => (by cases h), rfl⟩ ?_)
  rintro m e s ⟨ch, a5, a6, rs, xss, rfl, hI, hcl, rfl⟩
  refine ok_tst.mpr ⟨.bl ch, s, rfl, ch, rfl, fun hch => ?_, fun hch => ?_⟩
  · subst hch
    refine seq_set.mpr ⟨_, s, rfl, ?_⟩
    show OkS (forS _ _ _ [some fn, some (.tup (bs.map Blk.d)), some (.ref L), some (.ref F), some (.bl false), a5, a6, none] s) _
    have hsrc : revRI (rg1F (unF lenD (varF 1))) [some fn, some (.tup (bs.map Blk.d)), some (.ref L), some (.ref F), some (.bl false), a5, a6, none] s = some (.rngC ((bs.length : Int) - 1) (-1) bs.length, s) := by
      have e1 : rg1F (unF lenD (varF 1)) [some fn, some (.tup (bs.map Blk.d)), some (.ref L), some (.ref F), some (.bl false), a5, a6, none] s = some (((0 : Int), ((bs.map Blk.d).length : Int)), s) := rfl
      unfold revRI
      rw [e1, Option.bind_some]
      simp only [List.length_map]
      rw [if_pos (by omega)]
      have e2 : ((bs.length : Int) - 0).toNat = bs.length := by omega
      rw [e2]
      simp
    refine oks_for ⟨_, s, hsrc, (List.range bs.length).map fun i => .int (((bs.length : Int) - 1) + (i : Nat) * (-1)), fun i e s => ∃ ch a5 a6 rs xss', e = [some fn, some (.tup (bs.map Blk.d)), some (.ref L), some (.ref F), some (.bl ch), a5, a6, none] ∧ LI U bs s1 s F rs xss' ∧ (ch = true → tot xss < tot xss') ∧ (ch = false → xss' = xss ∧ ∀ j, bs.length - i ≤ j → ClAt bs xss j), by show some _ = _; simp, ⟨false, a5, a6, rs, xss, rfl, hI, fun h => (by cases h), fun _ => ⟨rfl, fun j hj b hbj => ?_⟩⟩, ?_, ?_⟩
    · have := (List.getElem?_eq_some_iff.mp hbj).1
      omega
    · rintro i e s2 d hd ⟨ch, a5, a6, rs, xss', rfl, hI, hc1, hc2⟩
      have hd2 := hd
      rw [List.getElem?_map] at hd2
      obtain ⟨i', hi', rfl⟩ := mapS hd2
      have hil : i < bs.length := by
        have := (List.getElem?_eq_some_iff.mp hi').1
        simpa using this
      have : i' = i := by
        rw [List.getElem?_range hil] at hi'
        exact (Option.some.inj hi').symm
      subst this
      obtain ⟨j, ej⟩ : ∃ j : Nat, ((bs.length : Int) - 1) + (i' : Nat) * (-1) = (j : Int) := ⟨bs.length - 1 - i', by omega⟩
      have hj : j < bs.length := by omega
      refine ⟨?_, ?_⟩
      · show some (if i' < bs.length then some (D.int (((bs.length : Int) - 1) + (i' : Nat) * (-1))) else none) = _
        rw [if_pos hil]
      rw [ej]
      refine ⟨_, s2, rfl, ?_⟩
      show OkS (livB (Hd.runs (k + 2)) [some fn, some (.tup (bs.map Blk.d)), some (.ref L), some (.ref F), some (.bl ch), some (.int (j : Int)), a6, none] s2) _
      unfold livB
      have hbj : bs[j]? = some bs[j] := List.getElem?_eq_getElem hj
      have hbm : bs[j] ∈ bs := List.getElem_mem hj
      generalize bs[j] = b at hbj hbm
      have hrj : rs[j]? = some (rs[j]'(by rw [hI.len]; exact hj)) := List.getElem?_eq_getElem _
      generalize rs[j]'(by rw [hI.len]; exact hj) = r at hrj
      have hxj : xss'[j]? = some (xss'[j]'(by rw [hI.fl.len, hI.len]; exact hj)) := List.getElem?_eq_getElem _
      generalize xss'[j]'(by rw [hI.fl.len, hI.len]; exact hj) = xs at hxj
      obtain ⟨g, hg, ggl⟩ := gsOk s2 hI.fm j b hbj
      refine seq_set.mpr (ok_call.mpr (ok_cons.mpr ⟨b.d, s2, ?_, ok_cons.mpr (ok_call.mpr (ok_cons.mpr ⟨_, s2, rfl, ok_cons.mpr ⟨.ref g, s2, ?_, ok_cons.mpr ⟨.ref F, s2, rfl, ok_nil.mpr ⟨rfl, behind_ok (k := k) (U := U) hU hI.fl.fnd hI.len ggl (hb b hbm) hz fun s3 n3 hn3 hk3 f3 => ok_nil.mpr ⟨rfl, ahead_ok (k := k) (U := U) hU hk3 (hu b hbm) fun s4 A hA hkA f4 => ?_⟩⟩⟩⟩⟩))⟩))
      · show getD (.tup (bs.map Blk.d)) (.int (j : Int)) s2 = _
        rw [get_ti, atI_map hbj]
        rfl
      · show getD (.ref L) (.int (j : Int)) s2 = _
        rw [get_ri, gLOk s2 hI.fm]
        simp only
        rw [atI_map hg]
        rfl
      show OkS (ifS _ _ _ [some fn, some (.tup (bs.map Blk.d)), some (.ref L), some (.ref F), some (.bl ch), some (.int (j : Int)), some (.ref A), none] s4) _
      have f24 := f3.nil f4
      have fl4 := hI.fl.fm f24
      have gr := fl4.ks j r xs hrj hxj
      obtain ⟨ys, gA, y1, y2, y3⟩ := hkA
      have ndx := fl4.nd xs (List.mem_of_getElem? hxj)
      have hsub : ∀ x ∈ xs, x ∈ ys := fun x hx => (y3 x).mpr (hI.post j b x hbj ⟨xs, hxj, hx⟩)
      refine oks_if'.mpr (ok_tst.mpr ⟨.bl (!(ys.length == xs.length && decide (∀ x ∈ ys, x ∈ xs))), s4, ?_, _, rfl, fun ht => ?_, fun hf => ?_⟩)
      · show (some (D.ref A, s4)).bind (fun p => (opF getD (varF 3) (varF 5) _ p.2).bind fun q => neDicD p.1 q.1 q.2) = _
        rw [Option.bind_some]
        have e1 : opF getD (varF 3) (varF 5) [some fn, some (.tup (bs.map Blk.d)), some (.ref L), some (.ref F), some (.bl ch), some (.int (j : Int)), some (.ref A), none] s4 = some (.ref r, s4) := by
          show getD (.ref F) (.int (j : Int)) s4 = _
          rw [get_ri, fl4.lst]
          simp only
          rw [atI_map hrj]
          rfl
        rw [e1, Option.bind_some]
        unfold neDicD
        simp only [gA, gr]
        rw [if_pos ⟨kv_allT, kv_allT⟩, kv_len, kv_len, kv_all]
      · -- more than was known
        have hnl : xs.length < ys.length := by
          have h1 := nodup_len ndx.1 hsub
          rcases Nat.lt_or_ge xs.length ys.length with h | h
          · exact h
          · have h2 := nodup_full ndx.1 hsub h
            have e3 : ys.length = xs.length := by omega
            rw [e3] at ht
            simp only [beq_self_eq_true, Bool.true_and, decide_eq_true h2] at ht
            cases ht
        have hFr : F ≠ A := by
          have h1 := Sto.get_lt hI.fl.lst
          have h2 := f3.le
          omega
        refine seq_asg.mpr ⟨_, s4, rfl, sub_d.mpr ⟨_, s4, rfl, _, s4, rfl, _, set_lst fl4.lst (by omega) (by rw [List.length_map, hI.len]; omega), oks_set.mpr ⟨_, _, rfl, ?_⟩⟩⟩
        have ejn : ((j : Int)).toNat = j := by omega
        have eset : (rs.map D.ref).set j (.ref A) = (rs.set j A).map D.ref := by rw [List.map_set]
        have htot := tot_set (ys := ys) hxj
        have mono : ∀ i x, pX xss' i x → pX (xss'.set j ys) i x := fun i x h => by
          rw [pX_set hxj]
          split
          · rename_i e
            subst e
            obtain ⟨zs, h1, h2⟩ := h
            rw [hxj] at h1
            cases h1
            exact hsub x h2
          · exact h
        refine ⟨true, _, _, rs.set j A, xss'.set j ys, rfl, ⟨⟨?_, by rw [List.length_set, List.length_set]; exact hI.fl.len, fun i n zs h1 h2 => ?_, fun zs hz2 => ?_⟩, by rw [List.length_set]; exact hI.len, fun i x h => ?_, fun i b' x hb' h => ?_, (hI.fm.nil f24).trans (Fm.set (W := [F]) (.inl (by simp))) fun q hq => .inr (by rw [List.mem_singleton.mp hq]; exact hF1)⟩, fun _ => ?_, fun h => (by cases h)⟩
        · rw [ejn, Sto.get_set_same (Sto.get_lt fl4.lst), eset]
        · rw [ejn]
          by_cases e : i = j
          · subst e
            rw [List.getElem?_set_self (by rw [hI.len]; exact hj)] at h1
            rw [List.getElem?_set_self (by rw [hI.fl.len, hI.len]; exact hj)] at h2
            cases h1
            cases h2
            rw [Sto.get_set_ne hFr.symm]
            exact gA
          · rw [List.getElem?_set_ne (Ne.symm e)] at h1 h2
            have := fl4.ks i n zs h1 h2
            rw [Sto.get_set_ne ?_]
            · exact this
            · rintro rfl
              rw [fl4.lst] at this
              cases this
        · rcases List.mem_or_eq_of_mem_set hz2 with h | h
          · exact hI.fl.nd zs h
          · rw [h]; exact ⟨y1, y2⟩
        · rw [pX_set hxj] at h
          split at h
          · rename_i e
            subst e
            exact Lv.of hbj hI.sound ((y3 x).mp h)
          · exact hI.sound i x h
        · rw [pX_set hxj] at h
          split at h
          · rename_i e
            subst e
            rw [hbj] at hb'
            cases hb'
            exact ((y3 x).mp h).mono fun z hz2 => hz2.mono mono
          · exact (hI.post i b' x hb' h).mono fun z hz2 => hz2.mono mono
        · rcases ch with _ | _
          · rw [(hc2 rfl).1] at htot ⊢
            omega
          · have := hc1 rfl
            omega
      · -- nothing more
        refine oks_next.mpr ⟨ch, _, _, rs, xss', rfl, ⟨fl4, hI.len, hI.sound, hI.post, hI.fm.nil f24⟩, hc1, fun h => ⟨(hc2 h).1, fun j' hj' => ?_⟩⟩
        by_cases e : j' = j
        · subst e
          intro b' hb' x hx
          rw [hbj] at hb'
          cases hb'
          rw [← (hc2 h).1] at hx ⊢
          have hx2 := (y3 x).mpr hx
          simp only [Bool.not_eq_eq_eq_not, Bool.not_false, Bool.and_eq_true, beq_iff_eq, decide_eq_true_eq] at hf
          exact ⟨xs, hxj, hf.2 x hx2⟩
        · exact (hc2 h).2 j' (by omega)
    · rintro e s2 ⟨ch, a5, a6, rs, xss', rfl, hJ, hc1, hc2⟩
      rw [List.length_map, List.length_range] at hc2 ⊢
      refine ⟨?_, ?_⟩
      · show some (if bs.length < bs.length then _ else none) = _
        rw [if_neg (by omega)]
      · have ht := hJ.tot
        rcases ch with _ | _
        · obtain ⟨e1, e2⟩ := hc2 rfl
          subst e1
          refine ⟨_, ?_, false, a5, a6, rs, xss', rfl, hJ, fun _ j => e2 j (by omega), rfl⟩
          simp
        · have := hc1 rfl
          refine ⟨_, ?_, true, a5, a6, rs, xss', rfl, hJ, fun h => (by cases h), rfl⟩
          simp only [if_true]
          omega
  · subst hch
    have hc := hcl rfl
    refine oks_ret.mpr ⟨_, s, rfl, hG s F rs (by have := f1.le; omega) hI.len ⟨hI.fl.lst, fun i n hn => (hI.fl.fnd.ks i n hn).iff fun x => ⟨hI.sound i x, fun h => h.closed fun j b hb' y hy => hc j b hb' y hy⟩⟩ (f1.nil hI.fm)⟩
open Classical in
/-- the names that live ahead of block i, rising -/
noncomputable def dueL (U : List Int) (bs : List Blk) (i : Nat) : List Int := (srt U).filter fun x => decide (Lv bs x i)
open Classical in
theorem due_of {bs : List Blk} {i : Nat} {xs : List Int} (hU : U.Nodup) (h1 : xs.Nodup) (h2 : ∀ x ∈ xs, x ∈ U) (h3 : ∀ x, x ∈ xs ↔ Lv bs x i) : srt xs = dueL U bs i := by
  refine sorted_eq ?_ (srt_sorted xs) ((srt_sorted U).filter _)
  refine (srt_perm xs).trans ?_
  refine (List.perm_ext_iff_of_nodup h1 (List.Pairwise.filter _ ((srt_perm U).nodup_iff.mpr hU))).mpr fun x => ?_
  rw [List.mem_filter, decide_eq_true_eq, (srt_perm U).mem_iff]
  exact ⟨fun h => ⟨h2 x h, (h3 x).mp h⟩, fun h => (h3 x).mpr h.2⟩
theorem living_ok {bs : List Blk} {nm kd : D} (hn : U.Nodup) (hU : U.length ≤ 2000000) (hl : bs.length ≤ 1000) (hz : ∀ c ∈ bs, c.pr.length ≤ SZ) (hb : ∀ b ∈ bs, ∀ g ∈ b.en.goals, 0 ≤ g ∧ g < bs.length) (hu : ∀ b ∈ bs, UsB U b)
    {G : D → Sto → Prop} (hG : ∀ (s : Sto) (L : Nat) (ls : List Nat), st.size ≤ L → s.get L = some (.lst (ls.map .ref)) → ls.length = bs.length → (∀ (i l : Nat), ls[i]? = some l → s.get l = some (.lst ((dueL U bs i).map .int)) ∧ L < l) → Fm [] st s → G (.ref L) s) : Ok (Hd.runs (k + 4) 8 [.tup [nm, kd, .tup (bs.map Blk.d)]] st) G := by
  have hs : SZ = 16777216 := by decide
  show Ok (bodyD _ (Hd.b_living (Hd.runs (k + 3))) _ st) _
  refine ok_body ?_
  unfold Hd.b_living
  show OkS (retS _ [some (.tup [nm, kd, .tup (bs.map Blk.d)]), none] st) _
  refine oks_ret.mpr (ok_lcr (enc := fun p : Nat × Nat => D.ref p.1) (Rel := fun L p z s => ∃ g, z = .ref g ∧ s.get g = some (.lst ((dueL U bs p.2).map .int)) ∧ L < g) (fun L p z s s' ⟨g, h1, h2, h3⟩ f => ⟨g, h1, f.keep h2 (by simp; omega), h3⟩) (oki_seq (ok_call.mpr (ok_cons.mpr ⟨_, st, rfl, ok_nil.mpr ⟨rfl, dicts_ok (k := k) hU hl hz hb hu fun s1 F rs hF lF hfnd f1 => .inr ⟨F, rs.map .ref, rfl, hfnd.lst, rs.zipIdx, ?_, by rw [List.length_zipIdx]; omega, fun p hp s f hlt => ⟨_, rfl, rfl, ?_⟩, fun s zs gz f lz hzs => ?_⟩⟩⟩))))
  · have e : rs.zipIdx.map (fun p : Nat × Nat => D.ref p.1) = rs.map D.ref := by
      have : (fun p : Nat × Nat => D.ref p.1) = D.ref ∘ Prod.fst := rfl
      rw [this, ← List.map_map, List.zipIdx_map_fst]
    rw [e]
    exact thru_lst hfnd.lst
  · have hp2 : rs[p.2]? = some p.1 := by
      have := List.mem_zipIdx_iff_getElem?.mp hp
      exact this
    obtain ⟨xs, x1, x2, x3, x4⟩ := hfnd.ks p.2 p.1 hp2
    refine ok_un.mpr ⟨_, s, rfl, ?_⟩
    show Ok (sortedD (.ref p.1) s) _
    rw [sorted_dic (f.keep x1 (by simp))]
    refine ok_some.mpr ⟨⟨s.size, rfl, ?_, hlt⟩, Fm.push⟩
    rw [Sto.get_push_new, due_of hn x2 x3 x4]
  · obtain ⟨ls, rfl⟩ := refs_of (zs := zs) fun z hz => by
      obtain ⟨i, hi⟩ := List.getElem?_of_mem hz
      have hil := (List.getElem?_eq_some_iff.mp hi).1
      obtain ⟨g, e, _⟩ := hzs i _ z (List.getElem?_eq_getElem (by omega)) hi
      exact ⟨g, e⟩
    rw [List.length_map, List.length_zipIdx] at lz
    refine hG s s1.size ls (by have := f1.le; omega) gz (lz.trans lF) (fun i l hi => ?_) (f1.nil f)
    have hil := (List.getElem?_eq_some_iff.mp hi).1
    have h1 : rs[i]? = some (rs[i]'(by omega)) := List.getElem?_eq_getElem _
    obtain ⟨g, e, q, q2⟩ := hzs i (rs[i]'(by omega), i) (.ref l) (by rw [List.getElem?_zipIdx, h1]; simp) (by rw [List.getElem?_map, hi]; rfl)
    cases e
    exact ⟨q, q2⟩
end
end Mw
/-! The law's own looking. -/
namespace Mw
open PySem PySem.Spec PyProof.Rows L2 Dn
theorem eq_oI {o : Option Int} {x : Int} {s : Sto} : eqD false (oI o) (.int x) s = some (.bl (decide (o = some x)), s) := by
  cases o with
  | some y =>
    show eqD false (.int y) (.int x) s = _
    rw [eq_int]
    simp
  | none =>
    unfold eqD
    show (some PyData.none).bind (fun a => (some (PyData.int x)).bind fun b => _) = _
    rw [Option.bind_some, Option.bind_some, if_pos ⟨rfl, rfl⟩]
    rfl
section
variable {ε : Type} {enc : ε → D} {fi : Dn.Env → Sto → Option (Src × Sto)} {g : GM} {tt : M Bool} {te : M D} {vs : List Nat} {env : Dn.Env} {st : Sto} {Q : D → Sto → Prop}
/-- those that stand a test, which may lay new things -/
theorem ok_lcf {p : ε → Bool} {y : ε → D} (h : Ok (fi env st) fun src s1 => ∃ xs : List ε, Thru src s1.size s1 (xs.map enc) ∧ xs.length ≤ SZ ∧
      (∀ d ∈ xs, ∀ s, Fm [] s1 s → s1.size < s.size → ∃ e1, g (enc d) (wipeE env vs) s = some (e1, s) ∧ Ok (tt e1 s) fun b s2 => b = p d ∧ Fm [] s s2 ∧ (p d = true → Ok (te e1 s2) fun z s' => z = y d ∧ Fm [] s2 s')) ∧
      ∀ s, s.get s1.size = some (.lst ((xs.filter p).map y)) → Fm [] s1 s → Q (.ref s1.size) s) : Ok (lcF fi g tt te vs env st) Q := by
  refine ok_lci (h.imp fun src s1 ⟨xs, ht, hz, hs, hq⟩ => ⟨xs.map enc, fun i acc s => acc = ((xs.take i).filter p).map y ∧ s.get s1.size = some (.lst acc) ∧ Fm [] s1 s, ht.2, ⟨rfl, Sto.get_push_new, Fm.push⟩, ?_, ?_⟩)
  · rintro i acc s d' hd' ⟨rfl, ha, hf⟩
    have hd'' := hd'
    rw [List.getElem?_map] at hd''
    obtain ⟨d, hd, rfl⟩ := mapS hd''
    have hag : ∀ i : Nat, i < s1.size → s.get i = s1.get i := fun i hi => hf.get i hi (by simp)
    have hi := (List.getElem?_eq_some_iff.mp hd).1
    obtain ⟨e1, hg, b, s2, et, rfl, f2, he⟩ := hs d (List.mem_of_getElem? hd) s hf (Sto.get_lt ha)
    have et2 : xs.take (i + 1) = xs.take i ++ [d] := by rw [List.take_add_one, hd]; rfl
    have ha2 := f2.keep ha (by simp)
    refine ⟨by rw [ht.1 s hag i, hd'], e1, hg, p d, s2, et, fun hp => ?_, fun hp => ⟨?_, ha2, hf.nil f2⟩⟩
    · refine (he hp).imp ?_
      rintro z s3 ⟨rfl, f3⟩
      have ha3 := f3.keep ha2 (by simp)
      refine ⟨ha3, ?_, ?_, Sto.get_set_same (Sto.get_lt ha3), ((hf.nil f2).nil f3).trans (Fm.set (W := [s1.size]) (.inl (by simp))) fun j q => .inr (by rw [List.mem_singleton.mp q]; exact Nat.le_refl _)⟩
      · rw [List.length_map]
        have h1 := List.length_filter_le p (xs.take i)
        rw [List.length_take] at h1
        omega
      · rw [et2, List.filter_append, List.map_append]
        simp [hp]
    · rw [et2, List.filter_append, List.map_append]
      simp [hp]
  · rintro acc s ⟨rfl, ha, hf⟩
    rw [List.length_map, List.take_length] at *
    refine ⟨?_, hq s ha hf⟩
    rw [ht.1 s (fun i hi => hf.get i hi (by simp))]
    simp
end
section
variable {st : Sto} {k : Nat}
theorem asked_by_ok {en : En} : Ok (Hd.runs (k + 1) 28 [en.d] st) fun d s => d = .tup (en.asks.map .int) ∧ s = st := by
  show Ok (bodyD _ (Hd.b__law_asked_by (Hd.runs k)) _ st) _
  refine ok_body ?_
  unfold Hd.b__law_asked_by
  show OkS (seqS _ _ [some en.d] st) _
  cases en with
  | jump g as =>
    exact seq_if.mpr (eq_s (a := "jump") (b := "jump") (r := true) rfl rfl (by decide +kernel) (by decide +kernel) (by decide +kernel) ⟨fun _ => seq_ret.mpr ⟨_, st, rfl, rfl, rfl⟩, fun q => by (cases q)⟩)
  | branch x y n =>
    exact seq_if.mpr (eq_s (a := "branch") (b := "jump") (r := false) rfl rfl (by decide +kernel) (by decide +kernel) (by decide +kernel) ⟨fun q => by (cases q), fun _ => seq_next.mpr (seq_if.mpr (eq_s (a := "branch") (b := "fail") (r := false) rfl rfl (by decide +kernel) (by decide +kernel) (by decide +kernel) ⟨fun q => by (cases q), fun _ => seq_next.mpr (oks_ret.mpr (ok_tup.mpr (ok_cons.mpr ⟨.int x, st, rfl, ok_nil.mpr ⟨by show 1 ≤ SZ; decide, rfl, rfl⟩⟩)))⟩))⟩)
  | give x =>
    exact seq_if.mpr (eq_s (a := "give") (b := "jump") (r := false) rfl rfl (by decide +kernel) (by decide +kernel) (by decide +kernel) ⟨fun q => by (cases q), fun _ => seq_next.mpr (seq_if.mpr (eq_s (a := "give") (b := "fail") (r := false) rfl rfl (by decide +kernel) (by decide +kernel) (by decide +kernel) ⟨fun q => by (cases q), fun _ => seq_next.mpr (oks_ret.mpr (ok_tup.mpr (ok_cons.mpr ⟨.int x, st, rfl, ok_nil.mpr ⟨by show 1 ≤ SZ; decide, rfl, rfl⟩⟩)))⟩))⟩)
  | fail l =>
    exact seq_if.mpr (eq_s (a := "fail") (b := "jump") (r := false) rfl rfl (by decide +kernel) (by decide +kernel) (by decide +kernel) ⟨fun q => by (cases q), fun _ => seq_next.mpr (seq_if.mpr (eq_s (a := "fail") (b := "fail") (r := true) rfl rfl (by decide +kernel) (by decide +kernel) (by decide +kernel) ⟨fun _ => seq_ret.mpr (ok_tup.mpr (ok_nil.mpr ⟨by show 0 ≤ SZ; decide, rfl, rfl⟩)), fun q => by (cases q)⟩))⟩)
theorem goals_ok {en : En} {G : D → Sto → Prop} (hG : ∀ s n, st.size ≤ n → s.get n = some (.lst (en.goals.map .int)) → Fm [] st s → G (.ref n) s) : Ok (Hd.runs (k + 1) 29 [en.d] st) G := by
  show Ok (bodyD _ (Hd.b__law_goals (Hd.runs k)) _ st) _
  refine ok_body ?_
  unfold Hd.b__law_goals
  show OkS (seqS _ _ [some en.d] st) _
  have z0 : 0 ≤ SZ := by decide
  have z1 : 1 ≤ SZ := by decide
  have z2 : 2 ≤ SZ := by decide
  cases en with
  | jump g as =>
    exact seq_if.mpr (eq_s (a := "jump") (b := "jump") (r := true) rfl rfl (by decide +kernel) (by decide +kernel) (by decide +kernel) ⟨fun _ => seq_ret.mpr (ok_lst.mpr (ok_cons.mpr ⟨.int g, st, rfl, ok_nil.mpr ⟨z1, hG _ _ (Nat.le_refl _) Sto.get_push_new Fm.push⟩⟩)), fun q => by (cases q)⟩)
  | branch x y n =>
    exact seq_if.mpr (eq_s (a := "branch") (b := "jump") (r := false) rfl rfl (by decide +kernel) (by decide +kernel) (by decide +kernel) ⟨fun q => by (cases q), fun _ => seq_next.mpr (seq_if.mpr (eq_s (a := "branch") (b := "branch") (r := true) rfl rfl (by decide +kernel) (by decide +kernel) (by decide +kernel) ⟨fun _ => seq_ret.mpr (ok_lst.mpr (ok_cons.mpr ⟨.int y, st, rfl, ok_cons.mpr ⟨.int n, st, rfl, ok_nil.mpr ⟨z2, hG _ _ (Nat.le_refl _) Sto.get_push_new Fm.push⟩⟩⟩)), fun q => by (cases q)⟩))⟩)
  | give x =>
    exact seq_if.mpr (eq_s (a := "give") (b := "jump") (r := false) rfl rfl (by decide +kernel) (by decide +kernel) (by decide +kernel) ⟨fun q => by (cases q), fun _ => seq_next.mpr (seq_if.mpr (eq_s (a := "give") (b := "branch") (r := false) rfl rfl (by decide +kernel) (by decide +kernel) (by decide +kernel) ⟨fun q => by (cases q), fun _ => seq_next.mpr (oks_ret.mpr (ok_lst.mpr (ok_nil.mpr ⟨z0, hG _ _ (Nat.le_refl _) Sto.get_push_new Fm.push⟩)))⟩))⟩)
  | fail x =>
    exact seq_if.mpr (eq_s (a := "fail") (b := "jump") (r := false) rfl rfl (by decide +kernel) (by decide +kernel) (by decide +kernel) ⟨fun q => by (cases q), fun _ => seq_next.mpr (seq_if.mpr (eq_s (a := "fail") (b := "branch") (r := false) rfl rfl (by decide +kernel) (by decide +kernel) (by decide +kernel) ⟨fun q => by (cases q), fun _ => seq_next.mpr (oks_ret.mpr (ok_lst.mpr (ok_nil.mpr ⟨z0, hG _ _ (Nat.le_refl _) Sto.get_push_new Fm.push⟩)))⟩))⟩)
def Met.w : Met → Str
  | .used => "used"
  | .given => "given"
  | .on => "on"
theorem met_ok {b : Blk} {x : Int} : Ok (Hd.runs (k + 2) 30 [b.d, .int x] st) fun d s => d = .str (met b x).w ∧ Fm [] st s := by
  show Ok (bodyD _ (Hd.b__law_met (Hd.runs (k + 1))) _ st) _
  refine ok_body ?_
  unfold Hd.b__law_met
  show OkS (seqS _ _ [some b.d, some (.int x), none] st) _
  refine seq_for (oks_forR (oki_tup (xs := b.rows.map Rw.d) rfl ⟨b.rows.map Rw.d, fun i e s => ∃ a2, e = [some b.d, some (.int x), a2] ∧ s = st ∧ metR x b.rows = metR x (b.rows.drop i), rfl, ⟨none, rfl, rfl, rfl⟩, ?_, ?_⟩))
  · rintro i e s d hd ⟨a2, rfl, rfl, hm⟩
    have hd2 := hd
    rw [List.getElem?_map] at hd2
    obtain ⟨r, hr, rfl⟩ := mapS hd2
    have hdr : b.rows.drop i = r :: b.rows.drop (i + 1) := by
      obtain ⟨hlt, hr2⟩ := List.getElem?_eq_some_iff.mp hr
      rw [List.drop_eq_getElem_cons hlt, hr2]
    refine ⟨by show some ((b.rows.map Rw.d)[i]?) = _; rw [hd], _, s, rfl, ?_⟩
    show OkS (seqS _ _ [some b.d, some (.int x), some r.d] s) _
    rw [hdr] at hm
    refine seq_if.mpr (ok_tst.mpr (ok_op.mpr ⟨.int x, s, rfl, .tup (r.args.map .int), s, rfl, ?_⟩))
    show Ok (inD false (.int x) (.tup (r.args.map .int)) s) _
    rw [in_tup]
    simp only [Bool.false_eq_true, if_false]
    refine ok_some.mpr ⟨_, rfl, fun h => ?_, fun h => ?_⟩
    · refine seq_ret.mpr ⟨_, s, rfl, ?_⟩
      have : met b x = .used := by
        unfold met
        rw [hm, metR, if_pos (by simpa using h)]
      rw [this]
      exact ⟨rfl, Fm.refl⟩
    · have hna : x ∉ r.args := by simpa using h
      refine seq_next.mpr (oks_if'.mpr (ok_tst.mpr (ok_op.mpr ⟨oI r.x, s, rfl, .int x, s, rfl, ?_⟩)))
      show Ok (eqD false (oI r.x) (.int x) s) _
      rw [eq_oI]
      refine ok_some.mpr ⟨_, rfl, fun h2 => ?_, fun h2 => ?_⟩
      · refine oks_ret.mpr ⟨_, s, rfl, ?_⟩
        have : met b x = .given := by
          unfold met
          rw [hm, metR, if_neg hna, if_pos (by simpa using h2)]
        rw [this]
        exact ⟨rfl, Fm.refl⟩
      · refine oks_next.mpr ⟨_, rfl, rfl, ?_⟩
        rw [hm, metR, if_neg hna, if_neg (by simpa using h2)]
  · rintro e s ⟨a2, rfl, rfl, hm⟩
    rw [List.length_map] at hm ⊢
    rw [List.drop_length] at hm
    refine ⟨by show some ((b.rows.map Rw.d)[b.rows.length]?) = _; simp, ?_⟩
    refine oks_ret.mpr (ok_op.mpr (ok_lst.mpr (ok_cons.mpr ⟨.str "on", s, rfl, ok_cons.mpr ⟨.str "used", s, rfl, ok_nil.mpr ⟨by show 2 ≤ SZ; decide, ?_⟩⟩⟩)))
    generalize hs1 : s.push (.lst [.str "on", .str "used"]) = s1
    have f1 : Fm [] s s1 := by rw [← hs1]; exact Fm.push
    have e1 : s1.get s.size = some (.lst [.str "on", .str "used"]) := by rw [← hs1]; exact Sto.get_push_new
    refine ok_un.mpr (ok_op.mpr ⟨.int x, s1, rfl, ok_call.mpr (ok_cons.mpr ⟨b.en.d, s1, rfl, ok_nil.mpr ⟨rfl, (asked_by_ok (k := k)).imp ?_⟩⟩)⟩)
    rintro d s2 ⟨rfl, rfl⟩
    show Ok (inD false (.int x) (.tup (b.en.asks.map .int)) s2) _
    rw [in_tup]
    simp only [Bool.false_eq_true, if_false]
    refine ok_some.mpr ?_
    show Ok (intD (.bl (decide (x ∈ b.en.asks))) s2) _
    rw [int_b]
    refine ok_some.mpr ?_
    show Ok (getD (.ref s.size) (.int (if decide (x ∈ b.en.asks) = true then 1 else 0)) s2) _
    rw [get_ri, e1]
    by_cases h : x ∈ b.en.asks
    · have : met b x = .used := by
        unfold met
        rw [hm]
        show (if x ∈ b.en.asks then Met.used else Met.on) = _
        rw [if_pos h]
      rw [this]
      simp only [h, decide_true, if_true]
      rw [at_lit1]
      exact ok_some.mpr ⟨rfl, f1⟩
    · have : met b x = .on := by
        unfold met
        rw [hm]
        show (if x ∈ b.en.asks then Met.used else Met.on) = _
        rw [if_neg h]
      rw [this]
      simp only [h, decide_false, Bool.false_eq_true, if_false]
      rw [at_lit0]
      exact ok_some.mpr ⟨rfl, f1⟩
end
end Mw
/-! The law's own walk; the names given; the lists changed. -/
namespace Mw
open PySem PySem.Spec PyProof.Rows L2 Dn
/-- the walk's state: seen S, waiting W -/
structure LvI (bs : List Blk) (x : Int) (a : Int) (S W : List Int) : Prop where
  nd : S.Nodup
  sr : ∀ y ∈ S, 0 ≤ y ∧ y < bs.length
  wr : ∀ y ∈ W, 0 ≤ y ∧ y < bs.length
  st : a ∈ S ∨ a ∈ W
  so : ∀ y, y ∈ S ∨ y ∈ W → Lv bs x y.toNat → Lv bs x a.toNat
  cl : ∀ y ∈ S, ∀ b, bs[y.toNat]? = some b → met b x ≠ .used ∧ (met b x = .on → ∀ (j : Nat) c, (j : Int) ∈ b.en.goals → bs[j]? = some c → x ∉ c.ps → (j : Int) ∈ S ∨ (j : Int) ∈ W)
theorem LvI.done {bs : List Blk} {x a : Int} {S : List Int} (h : LvI bs x a S []) : ¬ Lv bs x a.toNat := by
  have key : ∀ i, Lv bs x i → (i : Int) ∈ S → False := by
    intro i hl
    induction hl with
    | use hb hm =>
      intro hi
      have := (h.cl _ hi _ (by simpa using hb)).1
      exact this hm
    | on hb hm hg hc hx _ ih =>
      intro hi
      rcases (h.cl _ hi _ (by simpa using hb)).2 hm _ _ hg hc hx with q | q
      · exact ih q
      · cases q
  intro hl
  rcases h.st with q | q
  · have h0 := (h.sr a q).1
    have : ((a.toNat : Nat) : Int) = a := by omega
    exact key _ hl (by rw [this]; exact q)
  · cases q
theorem LvI.len {bs : List Blk} {x a : Int} {S W : List Int} (h : LvI bs x a S W) : S.length ≤ bs.length := by
  have := nodup_len (ys := irange 0 bs.length) h.nd fun y hy => irange_mem.mpr (h.sr y hy)
  rw [irange_len] at this
  omega
section
variable {st : Sto} {k : Nat}
theorem goals_len {e : En} : e.goals.length ≤ 2 := by cases e <;> simp [En.goals]
theorem ok_pop {n : Nat} {W : List Int} {y : Int} {env : Dn.Env} {i : Nat} (hv : varF i env st = some (.ref n, st)) (h : st.get n = some (.lst ((W ++ [y]).map .int))) {Q : D → Sto → Prop} (q : Q (.int y) (st.set n (.lst (W.map .int)))) : Ok (methF isL popD (varF i) nilF env st) Q := by
  refine ok_meth.mpr ⟨_, st, hv, isL_of h, ok_nil.mpr ?_⟩
  refine ⟨.int y, st.set n (.lst (W.map .int)), ?_, q⟩
  unfold popD
  simp only [h]
  rw [List.map_append]
  simp
theorem lives_ok {bs : List Blk} {a : Nat} {x : Int} (ha : a < bs.length) (hl : bs.length ≤ 1000) (hz : ∀ c ∈ bs, c.pr.length ≤ SZ) (hb : ∀ b ∈ bs, ∀ g ∈ b.en.goals, 0 ≤ g ∧ g < bs.length)
    {G : D → Sto → Prop} (hG : ∀ s b, (b = true ↔ Lv bs x a) → Fm [] st s → G (.bl b) s) : Ok (Hd.runs (k + 3) 31 [.tup (bs.map Blk.d), .int (a : Int), .int x] st) G := by
  have hs : SZ = 16777216 := by decide
  show Ok (bodyD _ (Hd.b__law_lives (Hd.runs (k + 2))) _ st) _
  refine ok_body ?_
  unfold Hd.b__law_lives
  show OkS (seqS _ _ [some (.tup (bs.map Blk.d)), some (.int (a : Int)), some (.int x), none, none, none, none, none, none] st) _
  refine seq_set.mpr (ok_newF ?_)
  generalize hs1 : st.push (.dic []) = s1
  have e1 : s1.get st.size = some (.dic (kv [])) := by rw [← hs1]; exact Sto.get_push_new
  have f1 : Fm [] st s1 := by rw [← hs1]; exact Fm.push
  generalize hN : st.size = N at e1
  have hN0 : st.size ≤ N := by omega
  show OkS (seqS _ _ [some (.tup (bs.map Blk.d)), some (.int (a : Int)), some (.int x), some (.ref N), none, none, none, none, none] s1) _
  refine seq_set.mpr (ok_lst.mpr (ok_cons.mpr ⟨.int (a : Int), s1, rfl, ok_nil.mpr ⟨by show 1 ≤ SZ; decide, ?_⟩⟩))
  generalize hs2 : s1.push (.lst [.int (a : Int)]) = s2
  have e2 : s2.get s1.size = some (.lst ([(a : Int)].map .int)) := by rw [← hs2]; exact Sto.get_push_new
  have f2 : Fm [] s1 s2 := by rw [← hs2]; exact Fm.push
  generalize hM : s1.size = M at e2
  have hM0 : st.size ≤ M := by have := f1.le; omega
  have hNM : N ≠ M := by have := Sto.get_lt e1; omega
  show OkS (seqS _ _ [some (.tup (bs.map Blk.d)), some (.int (a : Int)), some (.int x), some (.ref N), some (.ref M), none, none, none, none] s2) _
  refine seq_while (oks_while (fun m e s => ∃ a5 a6 a7 S W, e = [some (.tup (bs.map Blk.d)), some (.int (a : Int)), some (.int x), some (.ref N), some (.ref M), a5, a6, a7, none] ∧ s.get N = some (.dic (kv S)) ∧ s.get M = some (.lst (W.map .int)) ∧ LvI bs x a S W ∧ W.length + 3 * (bs.length - S.length) = m ∧ m ≤ 4000 ∧ Fm [] st s) (m := 1 + 3 * bs.length) (by omega) ⟨none, none, none, [], [(a : Int)], rfl, f2.keep e1 (by simp), e2, ⟨.nil, by simp, by simp; omega, .inr (by simp), fun y hy h => ?_, by simp⟩, by simp, by omega, f1.nil f2⟩ ?_)
  · rcases hy with hy | hy
    · cases hy
    · rw [List.mem_singleton.mp hy] at h
      exact h
  rintro m e s ⟨a5, a6, a7, S, W, rfl, gN, gM, hI, hm, hm2, hf⟩
  refine ok_tst.mpr (ok_op.mpr ⟨.ref M, s, rfl, ok_lst.mpr (ok_nil.mpr ⟨by show 0 ≤ SZ; decide, ?_⟩)⟩)
  generalize hs3 : s.push (.lst []) = s3
  have f3 : Fm [] s s3 := by rw [← hs3]; exact Fm.push
  have e3 : s3.get s.size = some (.lst []) := by rw [← hs3]; exact Sto.get_push_new
  have gM3 := f3.keep gM (by simp)
  have gN3 := f3.keep gN (by simp)
  show Ok (eqD true (.ref M) (.ref s.size) s3) _
  rw [ne_nil gM3 e3]
  refine ok_some.mpr ⟨_, rfl, fun h => ?_, fun h => ?_⟩
  · -- one more
    have hne : W ≠ [] := by
      rintro rfl
      cases h
    obtain ⟨W', y, rfl⟩ : ∃ W' y, W = W' ++ [y] := ⟨W.dropLast, W.getLast hne, (List.dropLast_concat_getLast hne).symm⟩
    refine seq_set.mpr (ok_pop (i := 4) rfl gM3 ?_)
    generalize hs4 : s3.set M (.lst (W'.map .int)) = s4
    have gM4 : s4.get M = some (.lst (W'.map .int)) := by rw [← hs4]; exact Sto.get_set_same (Sto.get_lt gM3)
    have gN4 : s4.get N = some (.dic (kv S)) := by rw [← hs4, Sto.get_set_ne hNM]; exact gN3
    have f4 : Fm [] st s4 := by rw [← hs4]; exact fm_new (hf.nil f3) hM0
    show OkS (seqS _ _ [some (.tup (bs.map Blk.d)), some (.int (a : Int)), some (.int x), some (.ref N), some (.ref M), some (.int y), a6, a7, none] s4) _
    have hyr := hI.wr y (by simp)
    obtain ⟨j, rfl⟩ : ∃ j : Nat, y = (j : Int) := ⟨y.toNat, by omega⟩
    have hj : j < bs.length := by omega
    have hbj : bs[j]? = some bs[j] := List.getElem?_eq_getElem hj
    have hbm : bs[j] ∈ bs := List.getElem_mem hj
    generalize bs[j] = b at hbj hbm
    have hwl : (W' ++ [(j : Int)]).length = W'.length + 1 := by simp
    refine seq_if.mpr (ok_tst.mpr (ok_op.mpr ⟨.int (j : Int), s4, rfl, .ref N, s4, rfl, ?_⟩))
    show Ok (inD false (.int (j : Int)) (.ref N) s4) _
    rw [in_r, gN4]
    simp only [key_i, Option.map_some, Bool.false_eq_true, if_false]
    refine ok_some.mpr ⟨_, rfl, fun hin => ?_, fun hin => ?_⟩
    · -- seen before
      have hjS : (j : Int) ∈ S := by
        rw [kv_get] at hin
        split at hin
        · assumption
        · cases hin
      refine seq_cnt.mpr ⟨m - 1, by omega, some (.int (j : Int)), a6, a7, S, W', rfl, gN4, gM4, ⟨hI.nd, hI.sr, fun z hz2 => hI.wr z (by simp [hz2]), ?_, fun z hz2 hlv => hI.so z ?_ hlv, fun z hz2 b' hb' => ?_⟩, by omega, by omega, f4⟩
      · rcases hI.st with q | q
        · exact .inl q
        · rcases List.mem_append.mp q with q | q
          · exact .inr q
          · rw [List.mem_singleton.mp q]; exact .inl hjS
      · rcases hz2 with q | q
        · exact .inl q
        · exact .inr (by simp [q])
      · obtain ⟨h1, h2⟩ := hI.cl z hz2 b' hb'
        refine ⟨h1, fun hon j' c hg hc hx => ?_⟩
        rcases h2 hon j' c hg hc hx with q | q
        · exact .inl q
        · rcases List.mem_append.mp q with q | q
          · exact .inr q
          · rw [List.mem_singleton.mp q]; exact .inl hjS
    · have hjS : (j : Int) ∉ S := by
        intro q
        rw [kv_get, if_pos q] at hin
        cases hin
      have hSl : S.length + 1 ≤ bs.length := by
        have := nodup_len (xs := (j : Int) :: S) (ys := irange 0 bs.length) (List.nodup_cons.mpr ⟨hjS, hI.nd⟩) fun z hz2 => by
          rcases List.mem_cons.mp hz2 with rfl | hz2
          · exact irange_mem.mpr hyr
          · exact irange_mem.mpr (hI.sr z hz2)
        rw [irange_len, List.length_cons] at this
        omega
      refine seq_next.mpr (seq_asg.mpr ⟨_, s4, rfl, sub_d.mpr ⟨_, s4, rfl, _, s4, rfl, _, set_dic gN4 rfl (by rw [kv_len]; omega), ?_⟩⟩)
      rw [kv_put]
      have hins : ins (j : Int) S = S ++ [(j : Int)] := by unfold ins; rw [if_neg hjS]
      generalize hs5 : s4.set N (.dic (kv (ins (j : Int) S))) = s5
      have gN5 : s5.get N = some (.dic (kv (ins (j : Int) S))) := by rw [← hs5]; exact Sto.get_set_same (Sto.get_lt gN4)
      have gM5 : s5.get M = some (.lst (W'.map .int)) := by rw [← hs5, Sto.get_set_ne hNM.symm]; exact gM4
      have f5 : Fm [] st s5 := by rw [← hs5]; exact fm_new f4 hN0
      show OkS (seqS _ _ [some (.tup (bs.map Blk.d)), some (.int (a : Int)), some (.int x), some (.ref N), some (.ref M), some (.int (j : Int)), a6, a7, none] s5) _
      have gb : ∀ e6 e7 s, opF getD (varF 0) (varF 5) [some (.tup (bs.map Blk.d)), some (.int (a : Int)), some (.int x), some (.ref N), some (.ref M), some (.int (j : Int)), e6, e7, none] s = some (b.d, s) := fun e6 e7 s => by
        show getD (.tup (bs.map Blk.d)) (.int (j : Int)) s = _
        rw [get_ti, atI_map hbj]
        rfl
      refine seq_set.mpr (ok_call.mpr (ok_cons.mpr ⟨b.d, s5, gb _ _ _, ok_cons.mpr ⟨.int x, s5, rfl, ok_nil.mpr ⟨rfl, (met_ok (k := k)).imp ?_⟩⟩⟩))
      rintro d6 s6 ⟨rfl, f56⟩
      have gN6 := f56.keep gN5 (by simp)
      have gM6 := f56.keep gM5 (by simp)
      have f6 := f5.nil f56
      show OkS (seqS _ _ [some (.tup (bs.map Blk.d)), some (.int (a : Int)), some (.int x), some (.ref N), some (.ref M), some (.int (j : Int)), some (.str (met b x).w), a7, none] s6) _
      have smem : ∀ z, z ∈ ins (j : Int) S ↔ z ∈ S ∨ z = (j : Int) := fun z => ins_mem
      have insl : (ins (j : Int) S).length = S.length + 1 := by rw [hins, List.length_append]; rfl
      have toj : ((j : Int)).toNat = j := by omega
      -- all but what is waiting newly
      have mk : ∀ N2 : List Int, met b x ≠ .used → (∀ z ∈ N2, ∃ (j' : Nat) (c : Blk), z = (j' : Int) ∧ z ∈ b.en.goals ∧ bs[j']? = some c ∧ x ∉ c.ps ∧ met b x = .on) → (met b x = .on → ∀ (j' : Nat) c, (j' : Int) ∈ b.en.goals → bs[j']? = some c → x ∉ c.ps → (j' : Int) ∈ N2) → LvI bs x a (ins (j : Int) S) (W' ++ N2) := fun N2 hnu h1 h2 => by
        have old : ∀ z, z ∈ S ∨ z ∈ W' ++ [(j : Int)] → z ∈ ins (j : Int) S ∨ z ∈ W' ++ N2 := fun z q => by
          rcases q with q | q
          · exact .inl ((smem z).mpr (.inl q))
          · rcases List.mem_append.mp q with q | q
            · exact .inr (List.mem_append.mpr (.inl q))
            · exact .inl ((smem z).mpr (.inr (List.mem_singleton.mp q)))
        refine ⟨ins_nodup hI.nd, fun z q => ?_, fun z q => ?_, old _ hI.st, fun z q hlv => ?_, fun z q b' hb' => ?_⟩
        · rcases (smem z).mp q with q | q
          · exact hI.sr z q
          · rw [q]; exact hyr
        · rcases List.mem_append.mp q with q | q
          · exact hI.wr z (by simp [q])
          · obtain ⟨j', c, rfl, h3, _⟩ := h1 z q
            exact hb b hbm _ h3
        · rcases q with q | q
          · rcases (smem z).mp q with q | q
            · exact hI.so z (.inl q) hlv
            · exact hI.so z (.inr (by simp [q])) hlv
          · rcases List.mem_append.mp q with q | q
            · exact hI.so z (.inr (by simp [q])) hlv
            · obtain ⟨j', c, rfl, h3, h4, h5, h6⟩ := h1 z q
              refine hI.so (j : Int) (.inr (by simp)) ?_
              rw [toj]
              exact .on hbj h6 h3 h4 h5 (by simpa using hlv)
        · rcases (smem z).mp q with q | q
          · obtain ⟨h3, h4⟩ := hI.cl z q b' hb'
            exact ⟨h3, fun hon j' c hg hc hx => old _ (h4 hon j' c hg hc hx)⟩
          · subst q
            rw [toj, hbj] at hb'
            cases hb'
            exact ⟨hnu, fun hon j' c hg hc hx => .inr (List.mem_append.mpr (.inr (h2 hon j' c hg hc hx)))⟩
      cases hmet : met b x with
      | used =>
        refine seq_if.mpr (eq_s (a := "used") (b := "used") (r := true) rfl rfl (by decide +kernel) (by decide +kernel) (by decide +kernel) ⟨fun _ => seq_ret.mpr ⟨_, s6, rfl, ?_⟩, fun q => by (cases q)⟩)
        refine hG s6 true ⟨fun _ => ?_, fun _ => rfl⟩ f6
        have := hI.so (j : Int) (.inr (by simp)) (by rw [toj]; exact .use hbj hmet)
        simpa using this
      | given =>
        refine seq_if.mpr (eq_s (a := "given") (b := "used") (r := false) rfl rfl (by decide +kernel) (by decide +kernel) (by decide +kernel) ⟨fun q => by (cases q), fun _ => seq_next.mpr (oks_if'.mpr (eq_s (a := "given") (b := "on") (r := false) rfl rfl (by decide +kernel) (by decide +kernel) (by decide +kernel) ⟨fun q => by (cases q), fun _ => oks_next.mpr ?_⟩))⟩)
        have := mk [] (by rw [hmet]; intro q; cases q) (by simp) (fun q => by rw [hmet] at q; cases q)
        rw [List.append_nil] at this
        exact ⟨W'.length + 3 * (bs.length - (ins (j : Int) S).length), by omega, _, _, _, _, W', rfl, gN6, gM6, this, rfl, by omega, f6⟩
      | on =>
        refine seq_if.mpr (eq_s (a := "on") (b := "used") (r := false) rfl rfl (by decide +kernel) (by decide +kernel) (by decide +kernel) ⟨fun q => by (cases q), fun _ => seq_next.mpr (oks_if'.mpr (eq_s (a := "on") (b := "on") (r := true) rfl rfl (by decide +kernel) (by decide +kernel) (by decide +kernel) ⟨fun _ => ?_, fun q => by (cases q)⟩))⟩)
        refine seq_set.mpr (ok_call.mpr (ok_cons.mpr ⟨b.en.d, s6, ?_, ok_nil.mpr ⟨rfl, goals_ok (k := k + 1) fun s7 n7 hn7 g7 f67 => ?_⟩⟩))
        · show (opF getD (varF 0) (varF 5) _ s6).bind _ = _
          rw [gb, Option.bind_some]
          rfl
        have gN7 := f67.keep gN6 (by simp)
        have gM7 := f67.keep gM6 (by simp)
        show OkS (exprS _ [some (.tup (bs.map Blk.d)), some (.int (a : Int)), some (.int x), some (.ref N), some (.ref M), some (.int (j : Int)), some (.str Met.on.w), some (.ref n7), none] s7) _
        have pOf : ∀ g ∈ b.en.goals, ∃ c : Blk, bs[g.toNat]? = some c ∧ c ∈ bs ∧ ((g.toNat : Nat) : Int) = g := fun g hg => by
          have := hb b hbm g hg
          exact ⟨bs[g.toNat]'(by omega), List.getElem?_eq_getElem _, List.getElem_mem _, by omega⟩
        refine oks_expr.mpr (ok_meth.mpr ⟨_, s7, rfl, isL_of gM7, ok_cons.mpr (ok_lcf (enc := D.int) (y := D.int) (p := fun g => match bs[g.toNat]? with
          | some c => decide (x ∉ c.ps)
          | none => false) (oki_seq ⟨.ref n7, s7, rfl, .inr ⟨n7, _, rfl, g7, b.en.goals, thru_lst g7, by have := goals_len (e := b.en); omega, fun g hg s' f' _ => ⟨_, rfl, ?_⟩, fun s8 g8 f78 => ok_nil.mpr ?_⟩⟩))⟩)
        · obtain ⟨c, hc, hcm, eg⟩ := pOf g hg
          simp only [hc]
          refine ok_tst.mpr (ok_op.mpr ⟨.int x, s', rfl, ok_call.mpr (ok_cons.mpr ⟨c.d, s', ?_, ok_nil.mpr ⟨rfl, params32_ok (k := k + 1) (hz c hcm) fun s9 n9 hn9 g9 f9 => ?_⟩⟩)⟩)
          · show getD (.tup (bs.map Blk.d)) (.int g) s' = _
            rw [get_ti, ← eg, atI_map hc]
            rfl
          · show Ok (inD true (.int x) (.ref n9) s9) _
            rw [in_ref g9]
            simp only [if_true]
            exact ok_some.mpr ⟨_, rfl, by simp, f9, fun _ => ⟨_, s9, rfl, rfl, Fm.refl⟩⟩
        · generalize hN2 : b.en.goals.filter (fun g => match bs[g.toNat]? with
            | some c => decide (x ∉ c.ps)
            | none => false) = N2 at g8
          have gM8 := f78.keep gM7 (by simp)
          have gN8 := f78.keep gN7 (by simp)
          have n2l : N2.length ≤ 2 := by
            rw [← hN2]
            exact Nat.le_trans (List.length_filter_le _ _) goals_len
          have : extendD (.ref M) [.ref s7.size] s8 = some (.non, s8.set M (.lst ((W' ++ N2).map .int))) := by
            unfold extendD
            simp only [gM8, g8]
            rw [if_pos (by rw [List.length_map, List.length_map]; omega), List.map_append]
          show Ok (extendD (.ref M) [.ref s7.size] s8) _
          rw [this]
          have hI2 := mk N2 (by rw [hmet]; intro q; cases q) (fun z hz2 => by
            rw [← hN2] at hz2
            obtain ⟨q1, q2⟩ := List.mem_filter.mp hz2
            obtain ⟨c, hc, hcm, eg⟩ := pOf z q1
            rw [hc] at q2
            exact ⟨z.toNat, c, eg.symm, q1, hc, by simpa using q2, hmet⟩) (fun _ j' c hg hc hx => by
            rw [← hN2]
            refine List.mem_filter.mpr ⟨hg, ?_⟩
            have : ((j' : Int)).toNat = j' := by omega
            rw [this, hc]
            simpa using hx)
          refine ok_some.mpr ⟨(W' ++ N2).length + 3 * (bs.length - (ins (j : Int) S).length), by rw [List.length_append]; omega, _, _, _, _, W' ++ N2, rfl, ?_, Sto.get_set_same (Sto.get_lt gM8), hI2, rfl, by rw [List.length_append]; omega, fm_new ((f6.nil f67).nil f78) hM0⟩
          rw [Sto.get_set_ne hNM]
          exact gN8
  · -- none is left
    have hw : W = [] := by
      cases W with
      | nil => rfl
      | cons a b => cases h
    subst hw
    refine oks_ret.mpr ⟨_, s3, rfl, hG s3 false ⟨fun q => (by cases q), fun q => ?_⟩ (hf.nil f3)⟩
    have := hI.done
    simp only [Int.toNat_natCast] at this
    exact (this q).elim
end
end Mw
/-! The pot; the names given; lists changed; lists compared. -/
namespace Mw
open PySem PySem.Spec PyProof.Rows L2 Dn
section
variable {f g : M D} {env : Dn.Env} {st : Sto} {Q : D → Sto → Prop} {k : Nat}
theorem ok_andV (h : Ok (f env st) fun d s => ∃ b, d = .bl b ∧ (b = true → Ok (g env s) Q) ∧ (b = false → Q (.bl false) s)) : Ok (andV f g env st) Q := by
  obtain ⟨d, s, e, b, rfl, h1, h2⟩ := h
  unfold andV
  rw [e, Option.bind_some]
  cases b with
  | true => exact h1 rfl
  | false => exact ok_some.mpr (h2 rfl)
theorem pot_ok {C : Nat} {ns : List Int} (h : st.get C = some (.frl (ns.map .int))) {G : D → Sto → Prop} (hG : ∀ s P Cl, PotAt P Cl ns s → Fm [] st s → G (.ref P) s) : Ok (Hd.runs (k + 1) 9 [.ref C] st) G := by
  show Ok (bodyD _ (Hd.b__law_pot (Hd.runs k)) _ st) _
  refine ok_body ?_
  unfold Hd.b__law_pot
  show OkS (seqS _ _ [some (.ref C), none] st) _
  have hlen : lenD (.ref C) st = some (.int ns.length, st) := by
    rw [len_r, h]
    simp
  have rest : ∀ mx : Bool, (mx = true → ns ≠ []) → OkS (retS (dispF [(cF (.str "cells"), unF listD (varF 0)), (cF (.str "at"), cF (.int 0)), (cF (.str "left"), cF (.int 0)), (cF (.str "many"), cF (.int 0)), (cF (.str "mixed"), varF 1)]) [some (.ref C), some (.bl mx)] st) (fun r => match r with
    | .rt d s => G d s
    | .nx _ s => G .non s
    | _ => False) := fun mx hmx => by
    refine oks_ret.mpr (ok_disp ?_)
    generalize hs1 : st.push (.dic []) = s1
    have f1 : Fm [] st s1 := by rw [← hs1]; exact Fm.push
    have e1 : s1.get st.size = some (.dic []) := by rw [← hs1]; exact Sto.get_push_new
    have hl : listD (.ref C) s1 = some (.ref s1.size, s1.push (.lst (ns.map .int))) := by
      rw [list_r, f1.keep h (by simp)]
    generalize hs2 : s1.push (.lst (ns.map D.int)) = s2 at hl
    have f2 : Fm [] s1 s2 := by rw [← hs2]; exact Fm.push
    have e2 : s2.get s1.size = some (.lst (ns.map .int)) := by rw [← hs2]; exact Sto.get_push_new
    have hne : s1.size ≠ st.size := by have := Sto.get_lt e1; omega
    have hl2 : unF listD (varF 0) [some (.ref C), some (.bl mx)] s1 = some (.ref s1.size, s2) := hl
    simp only [ok_pcons, ok_pnil, ok_c, ok_var0, ok_varS]
    refine ⟨_, _, hl2, f2.keep e1 (by simp), _, rfl, by show 5 ≤ 15; decide, hG _ st.size s1.size ⟨0, 0, 0, mx, Sto.get_set_same (Sto.get_lt (f2.keep e1 (by simp))), Int.le_refl _, Int.le_refl _, hmx, ?_⟩ (fm_new (f1.nil f2) (Nat.le_refl _))⟩
    rw [Sto.get_set_ne hne]
    exact e2
  refine seq_set.mpr (ok_andV (ok_op.mpr (ok_un.mpr ⟨.ref C, st, rfl, _, st, hlen, .int 0, st, rfl, ?_⟩)))
  show Ok (ltD (fun i j => decide (j < i)) (.int ns.length) (.int 0) st) _
  rw [lt_ii]
  refine ok_some.mpr ⟨_, rfl, fun h0 => ?_, fun h0 => rest false fun q => by cases q⟩
  have hpos : 0 < ns.length := by
    have := of_decide_eq_true h0
    omega
  obtain ⟨x, hx⟩ : ∃ x, ns[0]? = some x := ⟨ns[0], List.getElem?_eq_getElem hpos⟩
  have hx2 := atI_map (f := D.int) hx
  refine ok_op.mpr (ok_op.mpr (ok_op.mpr ⟨.ref C, st, rfl, .int 0, st, rfl, ?_⟩))
  show Ok (getD (.ref C) (.int 0) st) _
  rw [get_ri, h]
  simp only
  rw [show atI (ns.map D.int) 0 = some (.int x) from hx2]
  refine ok_mapv.mpr ⟨_, rfl, .int 2, st, rfl, ?_⟩
  show Ok (modD (.int x) (.int 2) st) _
  rw [mod_ii, if_pos (by decide)]
  refine ok_some.mpr ⟨.int 1, st, rfl, ?_⟩
  show Ok (eqD false (.int (x.fmod 2)) (.int 1) st) _
  rw [eq_int]
  refine ok_some.mpr (rest _ fun _ q => ?_)
  rw [q] at hpos
  cases hpos
end
theorem given_eq : ∀ rs : List Rw, (rs.filter fun r => r.x.isSome).map (fun r => oI r.x) = (rs.filterMap fun r => r.x).map D.int
  | [] => rfl
  | r :: rs => by
    have ih := given_eq rs
    cases h : r.x with
    | none => simp only [List.filter_cons, h, Option.isSome_none, Bool.false_eq_true, if_false, List.filterMap_cons, ih]
    | some x =>
      have e : oI r.x = .int x := by rw [h]; rfl
      simp only [List.filter_cons, h, Option.isSome_some, if_true, List.filterMap_cons, List.map_cons, ih]
      rfl
section
variable {st : Sto} {k : Nat}
theorem given_ok {bs : List Blk} (hU : (bs.flatMap gvB).length ≤ 2000000) (hz : ∀ b ∈ bs, b.pr.length ≤ SZ ∧ b.rows.length ≤ SZ) (hl : bs.length ≤ SZ) {G : D → Sto → Prop} (hG : ∀ s n, st.size ≤ n → s.get n = some (.lst ((bs.flatMap gvB).map .int)) → Fm [] st s → G (.ref n) s) : Ok (Hd.runs (k + 2) 33 [.tup (bs.map Blk.d)] st) G := by
  have hs : SZ = 16777216 := by decide
  show Ok (bodyD _ (Hd.b__law_given (Hd.runs (k + 1))) _ st) _
  refine ok_body ?_
  unfold Hd.b__law_given
  show OkS (seqS _ _ [some (.tup (bs.map Blk.d)), none, none, none] st) _
  refine seq_set.mpr (ok_lst.mpr (ok_nil.mpr ⟨by show 0 ≤ SZ; decide, ?_⟩))
  show OkS (seqS _ _ [some (.tup (bs.map Blk.d)), some (.ref st.size), none, none] (st.push (.lst []))) _
  refine seq_for (oks_for (oki_tup (xs := bs.map Blk.d) rfl ⟨bs.map Blk.d, fun i e s => ∃ n a2, e = [some (.tup (bs.map Blk.d)), some (.ref n), a2, none] ∧ st.size ≤ n ∧ s.get n = some (.lst (((bs.take i).flatMap gvB).map .int)) ∧ Fm [] st s, rfl, ⟨st.size, none, rfl, Nat.le_refl _, Sto.get_push_new, Fm.push⟩, ?_, ?_⟩))
  · rintro i e s d hd ⟨n, a2, rfl, hn, hg, hf⟩
    have hd2 := hd
    rw [List.getElem?_map] at hd2
    obtain ⟨b, hb, rfl⟩ := mapS hd2
    have hbm := List.mem_of_getElem? hb
    refine ⟨by show some ((bs.map Blk.d)[i]?) = _; rw [hd], _, s, rfl, ?_⟩
    have et : (bs.take (i + 1)).flatMap gvB = (bs.take i).flatMap gvB ++ gvB b := by rw [List.take_add_one, hb, List.flatMap_append]; simp
    have etl : ((bs.take i).flatMap gvB).length + (gvB b).length ≤ 2000000 := by
      have e0 : bs.flatMap gvB = (bs.take (i + 1)).flatMap gvB ++ (bs.drop (i + 1)).flatMap gvB := by rw [← List.flatMap_append, List.take_append_drop]
      rw [e0, et, List.length_append, List.length_append] at hU
      omega
    have gl : (gvB b).length = b.ps.length + (b.rows.filterMap (·.x)).length := by unfold gvB Blk.ps; rw [List.length_append]
    show OkS (setS 1 _ [some (.tup (bs.map Blk.d)), some (.ref n), some b.d, none] s) _
    refine oks_set.mpr (ok_op.mpr (ok_op.mpr ⟨.ref n, s, rfl, ok_call.mpr (ok_cons.mpr ⟨b.d, s, rfl, ok_nil.mpr ⟨rfl, params32_ok (k := k) (hz b hbm).1 fun s2 n2 hn2 g2 f2 => ?_⟩⟩)⟩))
    show Ok (addD (.ref n) (.ref n2) s2) _
    have hg2 := f2.keep hg (by simp)
    rw [add_rr, hg2, g2]
    simp only
    rw [if_pos (by rw [List.length_map, List.length_map]; omega), ← List.map_append]
    refine ok_some.mpr ?_
    generalize hs3 : s2.push (.lst ((((bs.take i).flatMap gvB) ++ b.ps).map .int)) = s3
    have g3 : s3.get s2.size = some (.lst ((((bs.take i).flatMap gvB) ++ b.ps).map .int)) := by rw [← hs3]; exact Sto.get_push_new
    have f3 : Fm [] s2 s3 := by rw [← hs3]; exact Fm.push
    refine ok_lcp (enc := Rw.d) (p := fun r => r.x.isSome) (y := fun r => oI r.x) (oki_tup (xs := b.rows.map Rw.d) rfl ⟨b.rows, thru_tup, (hz b hbm).2, fun r hr s' hs' => ⟨_, rfl, ?_⟩, ?_⟩)
    · refine ok_tst.mpr (ok_op.mpr ⟨oI r.x, s', rfl, .non, s', rfl, ?_⟩)
      show Ok (isND true (oI r.x) .non s') _
      rw [is_n]
      refine ok_some.mpr ⟨_, rfl, rfl, ?_, fun _ => ⟨oI r.x, s', rfl, rfl, rfl⟩⟩
      cases r.x <;> rfl
    · rw [given_eq]
      show Ok (addD (.ref s2.size) (.ref s3.size) _) _
      rw [add_rr, (Fm.push (W := [])).keep g3 (by simp), Sto.get_push_new]
      simp only
      rw [if_pos (by rw [List.length_map, List.length_map, List.length_append]; omega), ← List.map_append, List.append_assoc]
      refine ok_some.mpr ⟨_, _, rfl, ?_, ?_, ?_⟩
      · rw [Sto.size_push]
        have := f2.le
        have := f3.le
        have := hf.le
        omega
      · rw [Sto.get_push_new, et]
        rfl
      · exact ((hf.nil f2).nil f3).nil ((Fm.push (W := [])).nil (Fm.push (W := [])))
  · rintro e s ⟨n, a2, rfl, hn, hg, hf⟩
    rw [List.length_map] at hg ⊢
    rw [List.take_length] at hg
    exact ⟨by show some ((bs.map Blk.d)[bs.length]?) = _; simp, oks_ret.mpr ⟨_, s, rfl, hG s n hn hg hf⟩⟩
theorem changed_ok {L : Nat} {ls : List Nat} (hL : st.get L = some (.lst (ls.map .ref))) (hl : ls.length ≤ 1000) (hls : ∀ l ∈ ls, L < l ∧ ∃ xs : List D, st.get l = some (.lst xs) ∧ xs.length ≤ 2000000) {G : D → Sto → Prop} (hG : ∀ s, Fm (L :: ls) st s → G .non s) : Ok (Hd.runs (k + 1) 34 [.ref L] st) G := by
  have hs : SZ = 16777216 := by decide
  show Ok (bodyD _ (Hd.b__law_changed (Hd.runs k)) _ st) _
  refine ok_body ?_
  unfold Hd.b__law_changed
  show OkS (seqS _ _ [some (.ref L), none] st) _
  refine seq_for (oks_for (oki_seq ⟨.ref L, st, rfl, .inr ⟨L, _, rfl, hL, ls.map .ref, fun i e s => ∃ a1, e = [some (.ref L), a1] ∧ s.get L = some (.lst (ls.map .ref)) ∧ (∀ l ∈ ls, ∃ xs : List D, s.get l = some (.lst xs) ∧ xs.length ≤ 2000000 + i) ∧ Fm (L :: ls) st s, ?_, ⟨none, rfl, hL, fun l h => (hls l h).2, Fm.refl⟩, ?_, ?_⟩⟩))
  · show (st.seq L).map List.length = _
    rw [seq_get hL]
    rfl
  · rintro i e s d hd ⟨a1, rfl, hg, hx, hf⟩
    have hd2 := hd
    rw [List.getElem?_map] at hd2
    obtain ⟨l, hli, rfl⟩ := mapS hd2
    have hlm := List.mem_of_getElem? hli
    have hil := (List.getElem?_eq_some_iff.mp hli).1
    refine ⟨?_, _, s, rfl, ?_⟩
    · show (s.seq L).map (fun xs => xs[i]?) = _
      rw [seq_get hg]
      show some ((ls.map D.ref)[i]?) = _
      rw [hd]
    obtain ⟨xs, hxs, hxl⟩ := hx l hlm
    show OkS (exprS _ [some (.ref L), some (.ref l)] s) _
    refine oks_expr.mpr (ok_meth.mpr ⟨.ref l, s, rfl, isL_of hxs, ok_cons.mpr (ok_un.mpr ⟨.int 1, s, rfl, .int (-1), s, rfl, ok_nil.mpr ?_⟩)⟩)
    show Ok (appendD (.ref l) [.int (-1)] s) _
    rw [append_r, hxs]
    simp only
    rw [if_pos (by omega)]
    have hne : L ≠ l := by have := (hls l hlm).1; omega
    refine ok_some.mpr ⟨_, rfl, (Sto.get_set_ne hne).trans hg, fun l2 h2 => ?_, hf.trans (Fm.set (W := [l]) (.inl (by simp))) fun j q => .inl (by rw [List.mem_singleton.mp q]; exact List.mem_cons_of_mem _ hlm)⟩
    by_cases e : l2 = l
    · subst e
      exact ⟨_, Sto.get_set_same (Sto.get_lt hxs), by rw [List.length_append]; show xs.length + 1 ≤ _; omega⟩
    · obtain ⟨ys, h3, h4⟩ := hx l2 h2
      exact ⟨ys, (Sto.get_set_ne e).trans h3, by omega⟩
  · rintro e s ⟨a1, rfl, hg, hx, hf⟩
    rw [List.length_map]
    refine ⟨?_, ?_⟩
    · show (s.seq L).map (fun xs => xs[ls.length]?) = _
      rw [seq_get hg]
      simp
    show OkS (exprS _ [some (.ref L), a1] s) _
    refine oks_expr.mpr (ok_meth.mpr ⟨.ref L, s, rfl, isL_of hg, ok_cons.mpr (ok_lst.mpr (ok_nil.mpr ⟨by show 0 ≤ SZ; decide, ok_nil.mpr ?_⟩))⟩)
    have hg2 : (s.push (.lst [])).get L = some (.lst (ls.map .ref)) := (Sto.get_push_lt (Sto.get_lt hg)).trans hg
    show Ok (appendD (.ref L) [.ref s.size] (s.push (.lst []))) _
    rw [append_r, hg2]
    simp only
    rw [if_pos (by rw [List.length_map]; omega)]
    exact ok_some.mpr (hG _ ((hf.trans (Fm.push (W := [])) fun j q => (by cases q)).trans (Fm.set (W := [L]) (.inl (by simp))) fun j q => .inl (by rw [List.mem_singleton.mp q]; simp)))
/-! ### lists of lists of ints, compared -/
def pyI (xs : List Int) : PyData := .list (xs.map .int)
theorem eqvAll_ints : ∀ is : List Int, PyData.eqvAll (is.map .int) (is.map .int) = true
  | [] => rfl
  | i :: is => by
    rw [List.map_cons, PyData.eqvAll, eqvAll_ints is]
    have : PyData.eqv (.int i) (.int i) = true := by simp only [PyData.eqv]; exact decide_eq_true rfl
    rw [this]; rfl
theorem eqv_pyI (xs : List Int) : PyData.eqv (pyI xs) (pyI xs) = true := by
  unfold pyI
  rw [PyData.eqv]
  exact eqvAll_ints xs
theorem eqvAll_lists : ∀ xss : List (List Int), PyData.eqvAll (xss.map pyI) (xss.map pyI) = true
  | [] => rfl
  | xs :: xss => by
    rw [List.map_cons, PyData.eqvAll, eqvAll_lists xss, eqv_pyI]
    rfl
theorem lay_lists : ∀ xss : List (List Int), PyData.canLayAll0 (xss.map pyI) = true
  | [] => rfl
  | xs :: xss => by
    rw [List.map_cons]
    unfold PyData.canLayAll0
    rw [lay_lists xss]
    have : (pyI xs).canLay0 = true := by
      unfold pyI
      rw [PyData.canLay0]
      exact lay_ints xs
    rw [this]; rfl
theorem depth_lists : ∀ xss : List (List Int), PyData.depthAll (xss.map pyI) ≤ 1
  | [] => Nat.zero_le _
  | xs :: xss => by
    rw [List.map_cons]
    unfold PyData.depthAll
    have : (pyI xs).depth = 1 := by
      unfold pyI
      rw [PyData.depth, depth_ints]
    exact Nat.max_le.mpr ⟨by omega, depth_lists xss⟩
theorem shaped_lists (xss : List (List Int)) : SeqAt.shaped (.list (xss.map pyI)) = true := by
  unfold SeqAt.shaped
  rw [Bool.and_eq_true, decide_eq_true_eq]
  refine ⟨by rw [PyData.canLay0]; exact lay_lists xss, ?_⟩
  rw [PyData.depth]
  have := depth_lists xss
  omega
theorem pyL_lists {s : Sto} {m : Nat} : ∀ {ls : List Nat} {xss : List (List Int)}, ls.length = xss.length → (∀ (i l : Nat) xs, ls[i]? = some l → xss[i]? = some xs → s.get l = some (.lst (xs.map .int))) → pyL (py (m + 2) s) (ls.map .ref) = some (xss.map pyI)
  | [], [], _, _ => rfl
  | [], _ :: _, h, _ => by cases h
  | _ :: _, [], h, _ => by cases h
  | l :: ls, xs :: xss, h, hg => by
    have ih := pyL_lists (m := m) (ls := ls) (xss := xss) (by simpa using h) fun i l xs h1 h2 => hg (i + 1) l xs (by simpa using h1) (by simpa using h2)
    have h0 := hg 0 l xs rfl rfl
    rw [List.map_cons, List.map_cons]
    unfold pyL
    rw [ih]
    have e1 : py (m + 2) s (.ref l) = some (pyI xs) := by
      show (s.seq l).bind (fun xs => (pyL (py (m + 1) s) xs).bind fun ys => some (PyData.list ys)) = _
      rw [seq_get h0, Option.bind_some, pyL_ints]
      rfl
    rw [e1]
    rfl
theorem ne_lists {s : Sto} {n m : Nat} {ls ks : List Nat} {xss : List (List Int)} (h1 : s.get n = some (.lst (ls.map .ref))) (h2 : s.get m = some (.lst (ks.map .ref))) (l1 : ls.length = xss.length) (l2 : ks.length = xss.length)
    (g1 : ∀ (i l : Nat) xs, ls[i]? = some l → xss[i]? = some xs → s.get l = some (.lst (xs.map .int))) (g2 : ∀ (i l : Nat) xs, ks[i]? = some l → xss[i]? = some xs → s.get l = some (.lst (xs.map .int))) : eqD true (.ref n) (.ref m) s = some (.bl false, s) := by
  have e1 : py 64 s (.ref n) = some (.list (xss.map pyI)) := by
    show (s.seq n).bind (fun xs => (pyL (py 63 s) xs).bind fun ys => some (PyData.list ys)) = _
    rw [seq_get h1, Option.bind_some, pyL_lists l1 g1]
    rfl
  have e2 : py 64 s (.ref m) = some (.list (xss.map pyI)) := by
    show (s.seq m).bind (fun xs => (pyL (py 63 s) xs).bind fun ys => some (PyData.list ys)) = _
    rw [seq_get h2, Option.bind_some, pyL_lists l2 g2]
    rfl
  unfold eqD
  rw [e1, e2, Option.bind_some, Option.bind_some, if_pos ⟨shaped_lists xss, shaped_lists xss⟩]
  have : PyData.eqv (.list (xss.map pyI)) (.list (xss.map pyI)) = true := by rw [PyData.eqv]; exact eqvAll_lists xss
  rw [this]
  rfl
end
end Mw
/-! The law. -/
namespace Mw
open PySem PySem.Spec PyProof.Rows L2 Dn
/-- the blocks of a function, as the law needs them -/
structure FR (bs : List Blk) : Prop where
  nd : (bs.flatMap gvB).Nodup
  ul : (bs.flatMap gvB).length ≤ 2000000
  len : bs.length ≤ 1000
  go : ∀ b ∈ bs, ∀ g ∈ b.en.goals, 0 ≤ g ∧ g < bs.length
  us : ∀ b ∈ bs, UsB (bs.flatMap gvB) b
  sz : ∀ b ∈ bs, b.pr.length ≤ SZ ∧ b.rows.length ≤ SZ
theorem irange_nodup {a b : Int} : (irange a b).Nodup := by
  unfold irange
  refine List.pairwise_map.mpr (List.Pairwise.imp ?_ (List.nodup_range (n := (b - a).toNat)))
  intro i j h e
  exact h (by omega)
theorem gvB_ren {w : Int} {b : Blk} : gvB (b.ren w) = (gvB b).map (ren w) := by
  have h : ∀ rs : List Rw, (rs.map (Rw.ren w)).filterMap (fun r => r.x) = (rs.filterMap fun r => r.x).map (ren w) := by
    intro rs
    induction rs with
    | nil => rfl
    | cons r rs ih =>
      have e : (Rw.ren w r).x = r.x.map (ren w) := rfl
      cases hx : r.x with
      | none => simp only [List.map_cons, List.filterMap_cons, e, hx, Option.map_none, ih]
      | some x => simp only [List.map_cons, List.filterMap_cons, e, hx, Option.map_some, ih]
  unfold gvB Blk.ren
  rw [List.map_append, h, List.map_map, List.map_map]
  rfl
theorem gv_ren {w : Int} : ∀ bs : List Blk, (bs.map (Blk.ren w)).flatMap gvB = (bs.flatMap gvB).map (ren w)
  | [] => rfl
  | b :: bs => by rw [List.map_cons, List.flatMap_cons, List.flatMap_cons, List.map_append, gvB_ren, gv_ren bs]
theorem goals_ren {w : Int} {e : En} : (e.ren w).goals = e.goals := by cases e <;> rfl
theorem asks_ren {w : Int} {e : En} : (e.ren w).asks = e.asks.map (ren w) := by cases e <;> rfl
theorem FOk.fr {bs : List Blk} (h : FOk bs) (w : Int) : FR (bs.map (Blk.ren w)) := by
  have hs : SZ = 16777216 := by decide
  obtain ⟨nx, n0, n1, hp, ho⟩ := h.nm
  have hmem : ∀ a, inN nx a → ren w a ∈ (bs.map (Blk.ren w)).flatMap gvB := fun a ha => by
    rw [gv_ren]
    exact List.mem_map_of_mem (hp.mem_iff.mpr (irange_mem.mpr ha))
  refine ⟨?_, ?_, ?_, fun b' hb' g hg => ?_, fun b' hb' => ?_, fun b' hb' => ?_⟩
  · rw [gv_ren]
    exact List.pairwise_map.mpr ((hp.nodup_iff.mpr irange_nodup).imp fun hne e => hne (ren_inj e))
  · rw [gv_ren, List.length_map, hp.length_eq, irange_len]
    omega
  · rw [List.length_map]; exact h.len
  · obtain ⟨b, hb, rfl⟩ := List.mem_map.mp hb'
    have hg : g ∈ (b.en.ren w).goals := hg
    rw [goals_ren] at hg
    rw [List.length_map]
    have he := (ho b hb).2
    cases hen : b.en with
    | jump j as =>
      rw [hen] at he hg
      have : g = j := by simpa [En.goals] using hg
      rw [this]; exact he.1
    | branch x y n =>
      rw [hen] at he hg
      have : g = y ∨ g = n := by simpa [En.goals] using hg
      rcases this with rfl | rfl
      · exact he.2.1
      · exact he.2.2
    | give x => rw [hen] at hg; cases hg
    | fail l => rw [hen] at hg; cases hg
  · obtain ⟨b, hb, rfl⟩ := List.mem_map.mp hb'
    refine ⟨fun r' hr' a' ha' => ?_, fun a' ha' => ?_⟩
    · have hr' : r' ∈ b.rows.map (Rw.ren w) := hr'
      obtain ⟨r, hr, rfl⟩ := List.mem_map.mp hr'
      have ha' : a' ∈ r.args.map (ren w) := ha'
      obtain ⟨a, ha, rfl⟩ := List.mem_map.mp ha'
      exact hmem a (((ho b hb).1 r hr).1 a ha)
    · have ha' : a' ∈ (b.en.ren w).asks := ha'
      rw [asks_ren] at ha'
      obtain ⟨a, ha, rfl⟩ := List.mem_map.mp ha'
      refine hmem a ?_
      have he := (ho b hb).2
      cases hen : b.en with
      | jump j as =>
        rw [hen] at he ha
        exact he.2.1 a ha
      | branch x y n =>
        rw [hen] at he ha
        rw [List.mem_singleton.mp ha]; exact he.1
      | give x =>
        rw [hen] at he ha
        rw [List.mem_singleton.mp ha]; exact he
      | fail l => rw [hen] at ha; cases ha
  · obtain ⟨b, hb, rfl⟩ := List.mem_map.mp hb'
    have := h.bz hb
    refine ⟨?_, ?_⟩
    · show (b.pr.map _).length ≤ SZ
      rw [List.length_map]; have := this.pr; omega
    · show (b.rows.map _).length ≤ SZ
      rw [List.length_map]; have := this.rows; omega
section
variable {st : Sto} {k : Nat}
theorem intsD_ints : ∀ xs : List Int, intsD (xs.map .int) = some xs
  | [] => rfl
  | x :: xs => by
    rw [List.map_cons, intsD, intsD_ints xs]
    rfl
theorem sorted_lst {n : Nat} {s : Sto} {xs : List Int} (h : s.get n = some (.lst (xs.map .int))) : sortedD (.ref n) s = some (.ref s.size, s.push (.lst ((srt xs).map .int))) := by
  show (match s.get n with
    | some (.lst xs) => (intsD xs).map fun ns => (D.ref s.size, s.push (.lst ((srt ns).map D.int)))
    | some (.frl xs) => (intsD xs).map fun ns => (D.ref s.size, s.push (.lst ((srt ns).map D.int)))
    | some (.dic kvs) => (keysI kvs).map fun ns => (D.ref s.size, s.push (.lst ((srt ns).map D.int)))
    | some (.frd kvs) => (keysI kvs).map fun ns => (D.ref s.size, s.push (.lst ((srt ns).map D.int)))
    | _ => none) = _
  rw [h]
  simp only [intsD_ints, Option.map_some]
theorem ok_isi {f : M D} {env : Dn.Env} {n s0 : _} {xs : List D} {Q : D → Sto → Prop} (hf : f env st = some (.ref n, s0)) (h : s0.get n = some (.lst xs)) (q : Q (.bl true) s0) : Ok (isiF "list" f env st) Q := by
  refine ⟨.bl true, s0, ?_, q⟩
  unfold isiF
  rw [hf, Option.bind_some]
  have : tyD s0 (.ref n) = some "list" := by
    show (match s0.get n with
      | some (.lst _) => some "list"
      | some (.dic _) => some "dict"
      | some (.frd _) => some "dict"
      | _ => none) = _
    rw [h]
  simp only [this, Option.bind_some]
  have e : kitB "list" "list" = some true := by decide +kernel
  rw [e]
  rfl
theorem bls_true : ∀ n : Nat, blsD (List.replicate n (.bl true)) = some (List.replicate n true)
  | 0 => rfl
  | n + 1 => by
    rw [List.replicate_succ, blsD, bls_true n]
    rfl
open Classical in
theorem due_len {U : List Int} {bs : List Blk} {i : Nat} : (dueL U bs i).length ≤ U.length := by
  unfold dueL
  refine Nat.le_trans (List.length_filter_le _ _) ?_
  rw [(srt_perm U).length_eq]
  exact Nat.le_refl _
/-- all that is due -/
noncomputable def dues (bs : List Blk) : List (List Int) := (List.range bs.length).map fun i => dueL (bs.flatMap gvB) bs i
theorem dues_get {bs : List Blk} {i : Nat} {xs : List Int} (h : (dues bs)[i]? = some xs) : xs = dueL (bs.flatMap gvB) bs i := by
  unfold dues at h
  rw [List.getElem?_map] at h
  obtain ⟨j, hj, rfl⟩ := mapS h
  have hil := (List.getElem?_eq_some_iff.mp hj).1
  rw [List.length_range] at hil
  rw [List.getElem?_range hil] at hj
  cases hj
  rfl
def lawB (c : Nat → FnD) : SM := (seqS (setS 7 (unF sortedD (callF 1 (c 33) (consF (varF 6) nilF))))
  (seqS (setS 8 (lcF (rng1I (unF lenD (varF 6))) (nameG 10) (yesF) (lcF (seqI (varF 7)) (nameG 11) (tstF (callF 3 (c 31) (consF (varF 6) (consF (varF 10) (consF (varF 11) nilF))))) (varF 11) [11]) [10]))
  (seqS (setS 9 (callF 1 (c 8) (consF (tupF (consF (varF 4) (consF (varF 5) (consF (varF 6) nilF)))) nilF)))
  (seqS (ifS (orF (notF (tstF (isiF "list" (varF 9)))) (tstF (opF (eqD true) (varF 9) (varF 8)))) (retS (cF (.bl false))) (nextS))
  (seqS (ifS (notF (tstF (unF (allD fun bs => bs.all id) (lcF (seqI (varF 9)) (nameG 12) (yesF) (isiF "list" (varF 12)) [12])))) (retS (cF (.bl false))) (nextS))
  (seqS (exprS (callF 1 (c 34) (consF (varF 9) nilF)))
  (ifS (tstF (opF (eqD true) (callF 1 (c 8) (consF (tupF (consF (varF 4) (consF (varF 5) (consF (varF 6) nilF)))) nilF)) (varF 8))) (retS (cF (.bl false))) (nextS))))))))
theorem lawB_ok {bs : List Blk} (hR : FR bs) {a0 a1 a2 a3 a7 a8 a9 : Option D} {nm kd : D} {R : Res → Prop} (hX : ∀ s a7 a8 a9, R (.nx [a0, a1, a2, a3, some nm, some kd, some (.tup (bs.map Blk.d)), a7, a8, a9, none, none, none] s)) :
    OkS (lawB (Hd.runs (k + 4)) [a0, a1, a2, a3, some nm, some kd, some (.tup (bs.map Blk.d)), a7, a8, a9, none, none, none] st) R := by
  have hs : SZ = 16777216 := by decide
  have hl := hR.len
  have hul := hR.ul
  unfold lawB
  generalize hU : bs.flatMap gvB = U at *
  refine seq_set.mpr (ok_un.mpr (ok_call.mpr (ok_cons.mpr ⟨.tup (bs.map Blk.d), st, rfl, ok_nil.mpr ⟨rfl, given_ok (k := k + 2) (by rw [hU]; exact hul) hR.sz (by omega) fun s1 n1 hn1 g1 f1 => ?_⟩⟩)))
  show Ok (sortedD (.ref n1) s1) _
  rw [sorted_lst g1, hU]
  refine ok_some.mpr ?_
  generalize hs2 : s1.push (.lst ((srt U).map .int)) = s2
  have g2 : s2.get s1.size = some (.lst ((srt U).map .int)) := by rw [← hs2]; exact Sto.get_push_new
  generalize hN : s1.size = N at g2
  show OkS (seqS _ _ [a0, a1, a2, a3, some nm, some kd, some (.tup (bs.map Blk.d)), some (.ref N), a8, a9, none, none, none] s2) _
  -- what is due
  have srtl : (srt U).length = U.length := (srt_perm U).length_eq
  refine seq_set.mpr (ok_lcr (ε := Nat) (enc := fun i => D.int (0 + (i : Nat))) (Rel := fun L i z s => ∃ g, z = .ref g ∧ s.get g = some (.lst ((dueL U bs i).map .int)) ∧ L < g) (fun L i z s s' ⟨g, h1, h2, h3⟩ f => ⟨g, h1, f.keep h2 (by simp; omega), h3⟩) (oki_rng1 (ok_un.mpr ⟨.tup (bs.map Blk.d), s2, rfl, ?_⟩)))
  show Ok (lenD (.tup (bs.map Blk.d)) s2) _
  rw [len_t, List.length_map]
  refine ok_some.mpr ⟨_, rfl, by omega, by omega, List.range bs.length, thru_rng, by rw [List.length_range]; omega, fun i hi s f hlt => ⟨_, rfl, rfl, ?_⟩, fun s3 zs gz f3 lz hz2 => ?_⟩
  · have hil : i < bs.length := List.mem_range.mp hi
    have ei : (0 + (i : Int)) = (i : Int) := by omega
    have g2s := f.keep g2 (by simp)
    refine ok_lcf (enc := D.int) (y := D.int) (p := fun x => @decide (Lv bs x i) (Classical.propDecidable _)) (oki_seq ⟨.ref N, s, rfl, .inr ⟨N, _, rfl, g2s, srt U, thru_lst g2s, by rw [srtl]; omega, fun x hx s' f' _ => ⟨_, rfl, ?_⟩, fun s' g' f' => ⟨⟨s.size, rfl, g', hlt⟩, f'⟩⟩⟩)
    refine ok_tst.mpr (ok_call.mpr (ok_cons.mpr ⟨.tup (bs.map Blk.d), s', rfl, ok_cons.mpr ⟨.int (0 + (i : Nat)), s', rfl, ok_cons.mpr ⟨.int x, s', rfl, ok_nil.mpr ⟨rfl, ?_⟩⟩⟩⟩))
    rw [ei]
    refine lives_ok (k := k + 1) hil hl (fun c hc => (hR.sz c hc).1) hR.go fun s9 b hb f9 => ⟨b, rfl, ?_, f9, fun _ => ⟨.int x, s9, rfl, rfl, Fm.refl⟩⟩
    by_cases hlv : Lv bs x i
    · rw [hb.mpr hlv]
      exact (@decide_eq_true _ (Classical.propDecidable _) hlv).symm
    · have : b = false := by
        cases b with
        | true => exact absurd (hb.mp rfl) hlv
        | false => rfl
      rw [this]
      exact (@decide_eq_false _ (Classical.propDecidable _) hlv).symm
  obtain ⟨ks, rfl⟩ := refs_of (zs := zs) fun z hz => by
    obtain ⟨i, hi⟩ := List.getElem?_of_mem hz
    have hil := (List.getElem?_eq_some_iff.mp hi).1
    obtain ⟨g, e, _⟩ := hz2 i _ z (List.getElem?_eq_getElem (by omega)) hi
    exact ⟨g, e⟩
  rw [List.length_map, List.length_range] at lz
  have dl : (dues bs).length = bs.length := by unfold dues; rw [List.length_map, List.length_range]
  have dg : ∀ s, Fm [] s3 s → ∀ (i l : Nat) xs, ks[i]? = some l → (dues bs)[i]? = some xs → s.get l = some (.lst (xs.map .int)) := fun s f i l xs h1 h2 => by
    have hil := (List.getElem?_eq_some_iff.mp h1).1
    obtain ⟨g, e, q, _⟩ := hz2 i i (.ref l) (List.getElem?_range (by omega)) (by rw [List.getElem?_map, h1]; rfl)
    cases e
    rw [dues_get h2, hU]
    exact f.keep q (by simp)
  generalize hM : s2.size = M at gz
  show OkS (seqS _ _ [a0, a1, a2, a3, some nm, some kd, some (.tup (bs.map Blk.d)), some (.ref N), some (.ref M), a9, none, none, none] s3) _
  -- what is told
  have hus := hR.us
  have hnd := hR.nd
  rw [hU] at hus hnd
  refine seq_set.mpr (ok_call.mpr (ok_cons.mpr (ok_tup.mpr (ok_cons.mpr ⟨nm, s3, rfl, ok_cons.mpr ⟨kd, s3, rfl, ok_cons.mpr ⟨.tup (bs.map Blk.d), s3, rfl, ok_nil.mpr ⟨by show 3 ≤ SZ; decide, ok_nil.mpr ⟨rfl, living_ok (k := k) (U := U) hnd hul hl (fun c hc => (hR.sz c hc).1) hR.go hus fun s4 L ls hL gL lL hls f4 => ?_⟩⟩⟩⟩⟩))))
  show OkS (seqS _ _ [a0, a1, a2, a3, some nm, some kd, some (.tup (bs.map Blk.d)), some (.ref N), some (.ref M), some (.ref L), none, none, none] s4) _
  have lg : ∀ (ls : List Nat) (s s' : Sto), (∀ (i l : Nat), ls[i]? = some l → s.get l = some (.lst ((dueL U bs i).map .int)) ∧ L ≤ l) → Fm [] s s' → ∀ (i l : Nat) xs, ls[i]? = some l → (dues bs)[i]? = some xs → s'.get l = some (.lst (xs.map .int)) := fun ls s s' h f i l xs h1 h2 => by
    rw [dues_get h2, hU]
    exact f.keep (h i l h1).1 (by simp)
  refine seq_if.mpr (ok_or.mpr (ok_not.mpr (ok_tst.mpr (ok_isi (n := L) rfl gL ⟨true, rfl, fun q => (by cases q), fun _ => ok_tst.mpr (ok_op.mpr ⟨.ref L, s4, rfl, .ref M, s4, rfl, ?_⟩)⟩))))
  show Ok (eqD true (.ref L) (.ref M) s4) _
  rw [ne_lists (xss := dues bs) gL (f4.keep gz (by simp)) (by omega) (by omega) (lg ls s4 s4 (fun i l h => ⟨(hls i l h).1, by have := (hls i l h).2; omega⟩) Fm.refl) (dg s4 f4)]
  refine ok_some.mpr ⟨false, rfl, fun q => (by cases q), fun _ => seq_next.mpr ?_⟩
  refine seq_if.mpr (ok_not.mpr (ok_tst.mpr (ok_un.mpr (ok_lcm (enc := D.ref) (y := fun _ => D.bl true) (oki_seq ⟨.ref L, s4, rfl, .inr ⟨L, _, rfl, gL, ls, thru_lst gL, by omega, fun l hlm s f hlt => ⟨_, rfl, rfl, ?_⟩, fun s5 g5 f5 => ?_⟩⟩)))))
  · obtain ⟨i, hi⟩ := List.getElem?_of_mem hlm
    exact ok_isi (n := l) rfl (f.keep (hls i l hi).1 (by simp)) ⟨rfl, Fm.refl⟩
  have eall : allD (fun bs : List Bool => bs.all id) (.ref s4.size) s5 = some (.bl true, s5) := by
    show (match s5.seq s4.size with
      | some xs => (blsD xs).map fun (bs : List Bool) => (D.bl (bs.all id), s5)
      | none => none) = _
    rw [seq_get g5]
    have : ls.map (fun _ => D.bl true) = List.replicate ls.length (.bl true) := List.map_const'
    simp only [this, bls_true, Option.map_some]
    simp
  show Ok (allD (fun bs : List Bool => bs.all id) (.ref s4.size) s5) _
  rw [eall]
  refine ok_some.mpr ⟨true, rfl, fun q => (by cases q), fun _ => seq_next.mpr ?_⟩
  show OkS (seqS _ _ [a0, a1, a2, a3, some nm, some kd, some (.tup (bs.map Blk.d)), some (.ref N), some (.ref M), some (.ref L), none, none, none] s5) _
  have gL5 := f5.keep gL (by simp)
  have gM5 := (f4.nil f5).keep gz (by simp)
  refine seq_expr.mpr (ok_call.mpr (ok_cons.mpr ⟨.ref L, s5, rfl, ok_nil.mpr ⟨rfl, changed_ok (k := k + 3) gL5 (by omega) (fun l hlm => ?_) fun s6 f6 => ?_⟩⟩))
  · obtain ⟨i, hi⟩ := List.getElem?_of_mem hlm
    refine ⟨(hls i l hi).2, _, f5.keep (hls i l hi).1 (by simp), ?_⟩
    rw [List.length_map]
    exact Nat.le_trans due_len hul
  -- asked again
  have hMlt : M < s3.size := Sto.get_lt gz
  have hkl : ∀ (i l : Nat), ks[i]? = some l → l < s3.size := fun i l h => by
    have hil := (List.getElem?_eq_some_iff.mp h).1
    exact Sto.get_lt (dg s3 Fm.refl i l (dues bs)[i] h (List.getElem?_eq_getElem (by omega)))
  have hout : ∀ j, j < s3.size → j ∉ L :: ls := fun j hj q => by
    rcases List.mem_cons.mp q with q | q
    · omega
    · obtain ⟨i, hi⟩ := List.getElem?_of_mem q
      have := (hls i j hi).2
      omega
  refine oks_if'.mpr (ok_tst.mpr (ok_op.mpr (ok_call.mpr (ok_cons.mpr (ok_tup.mpr (ok_cons.mpr ⟨nm, s6, rfl, ok_cons.mpr ⟨kd, s6, rfl, ok_cons.mpr ⟨.tup (bs.map Blk.d), s6, rfl, ok_nil.mpr ⟨by show 3 ≤ SZ; decide, ok_nil.mpr ⟨rfl, living_ok (k := k) (U := U) hnd hul hl (fun c hc => (hR.sz c hc).1) hR.go hus fun s7 L' ls' hL' gL' lL' hls' f7 => ?_⟩⟩⟩⟩⟩))))))
  refine ⟨.ref M, s7, rfl, ?_⟩
  show Ok (eqD true (.ref L') (.ref M) s7) _
  have keep7 : ∀ j o, j < s3.size → s3.get j = some o → s7.get j = some o := fun j o hj h => f7.keep (f6.keep ((f4.nil f5).keep h (by simp)) (hout j hj)) (by simp)
  rw [ne_lists (xss := dues bs) gL' (keep7 M _ hMlt gz) (by omega) (by omega) (fun i l xs h1 h2 => by rw [dues_get h2, hU]; exact (hls' i l h1).1) (fun i l xs h1 h2 => keep7 l _ (hkl i l h1) (dg s3 Fm.refl i l xs h1 h2))]
  refine ok_some.mpr ⟨false, rfl, fun q => (by cases q), fun _ => oks_next.mpr (hX s7 _ _ _)⟩
theorem law_ok {C : Nat} {ns : List Int} (h : st.get C = some (.frl (ns.map .int))) : Ok (Hd.runs (k + 15) 35 [.ref C] st) fun d _ => d = .bl true := by
  have hs : SZ = 16777216 := by decide
  show Ok (bodyD _ (Hd.b_law (Hd.runs (k + 14))) _ st) _
  refine ok_body ?_
  unfold Hd.b_law
  show OkS (seqS _ _ [some (.ref C), none, none, none, none, none, none, none, none, none, none, none, none] st) _
  refine seq_set.mpr (ok_call.mpr (ok_cons.mpr ⟨.ref C, st, rfl, ok_nil.mpr ⟨rfl, pot_ok (k := k + 13) h fun s1 P Cl P1 f1 => ?_⟩⟩))
  show OkS (seqS _ _ [some (.ref C), some (.ref P), none, none, none, none, none, none, none, none, none, none, none] s1) _
  refine seq_set.mpr (ok_call.mpr (ok_cons.mpr ⟨.ref P, s1, rfl, ok_cons.mpr ⟨.int 3, s1, rfl, ok_nil.mpr ⟨rfl, takeP (k := k + 12) P1 (by decide) (by decide) fun s2 w w0 w1 P2 f2 => ?_⟩⟩⟩))
  show OkS (seqS _ _ [some (.ref C), some (.ref P), some (.int w), none, none, none, none, none, none, none, none, none, none] s2) _
  refine seq_set.mpr (ok_call.mpr (ok_cons.mpr (ok_call.mpr (ok_cons.mpr ⟨.ref P, s2, rfl, ok_nil.mpr ⟨rfl, middle_ok (k := k) P2 fun s3 fi fs hfs hfl => ok_cons.mpr ⟨.int w, s3, rfl, ok_nil.mpr ⟨rfl, renamed_ok (k := k + 11) ⟨w0, w1⟩ hfs (by omega) fun s4 f4 => ?_⟩⟩⟩⟩))))
  show OkS (seqS _ _ [some (.ref C), some (.ref P), some (.int w), some (midR fi (fs.map (renF w))), none, none, none, none, none, none, none, none, none] s4) _
  refine seq_for (oks_for (oki_tup (xs := (fs.map (renF w)).map fnD) rfl ⟨(fs.map (renF w)).map fnD, fun i e s => ∃ a4 a5 a6 a7 a8 a9, e = [some (.ref C), some (.ref P), some (.int w), some (midR fi (fs.map (renF w))), a4, a5, a6, a7, a8, a9, none, none, none], rfl, ⟨_, _, _, _, _, _, rfl⟩, ?_, ?_⟩))
  · rintro i e s d hd ⟨a4, a5, a6, a7, a8, a9, rfl⟩
    have hd2 := hd
    rw [List.getElem?_map, List.getElem?_map] at hd2
    obtain ⟨f', hf', rfl⟩ := mapS hd2
    obtain ⟨f, hf, rfl⟩ := mapS hf'
    refine ⟨by show some (((fs.map (renF w)).map fnD)[i]?) = _; rw [hd], _, s, rfl, ?_⟩
    show OkS (lawB (Hd.runs (k + 10 + 4)) [some (.ref C), some (.ref P), some (.int w), some (midR fi (fs.map (renF w))), some (.str f.1), some Kd.num.d, some (.tup ((f.2.map (Blk.ren w)).map Blk.d)), a7, a8, a9, none, none, none] s) _
    exact lawB_ok (k := k + 10) ((hfs f (List.mem_of_getElem? hf)).fr w) fun s a7 a8 a9 => ⟨_, _, _, _, _, _, rfl⟩
  · rintro e s ⟨a4, a5, a6, a7, a8, a9, rfl⟩
    refine ⟨?_, oks_ret.mpr ⟨_, s, rfl, rfl⟩⟩
    show some (((fs.map (renF w)).map fnD)[((fs.map (renF w)).map fnD).length]?) = _
    rw [List.getElem?_eq_none (Nat.le_refl _)]
end
end Mw
/-! The beginning: the script's list in the store. -/
namespace Mw
open PySem PySem.Spec PyProof.Rows L2 Dn
theorem start_ok {K : PySem.W.Frag} {H : Hp} {a : Addr} {ns : List Int} {run : FnD} {E : XK} (ho : Only H) (hS : SqL K H a (ns.map V.int)) (hr : ∀ st : Sto, st.get 0 = some (.frl (ns.map .int)) → Ok (run [.ref 0] st) fun d _ => d = .bl true) : spD K 1 run [.ref a] H (fun v _ => v = .bl true) E := by
  have g0 : (⟨[.frl (ns.map D.int)]⟩ : Sto).get 0 = some (.frl (ns.map D.int)) := rfl
  obtain ⟨d, s', e, rfl⟩ := hr ⟨[.frl (ns.map D.int)]⟩ g0
  have rel : Rel K H (fun _ => a) ⟨[.frl (ns.map D.int)]⟩ := by
    refine ⟨fun i o hi => ?_, fun i j o u hi hj hw hw' _ => ?_⟩
    · have hl := Sto.get_lt hi
      have : i = 0 := by
        have : i < 1 := hl
        omega
      subst this
      rw [g0] at hi
      cases hi
      refine ⟨ns.map V.int, ?_, ints_map ns⟩
      rcases hS with h | h
      · rcases h with h | ⟨o, h⟩
        · rcases ho a with q | ⟨o, xs, q⟩
          · rw [h] at q; cases q
          · rw [h] at q; cases q
        · exact .inl ⟨o, h⟩
      · exact .inr h
    · have hl := Sto.get_lt hi
      have hl2 := Sto.get_lt hj
      have : i < 1 := hl
      have : j < 1 := hl2
      omega
  refine ⟨fun _ => a, ⟨[.frl (ns.map D.int)]⟩, [.ref 0], .bl true, s', rel, .cons ?_ .nil, rfl, e, fun H' α' v S hv => ?_⟩
  · unfold RD
    exact ⟨by show 0 < 1; decide, rfl⟩
  · exact rdBl hv
end Mw
namespace Hd
open PySem PySem.Spec PyProof.Rows L2 Dn
theorem facts {P : Program} {w : World} {K : PySem.W.Frag} {h : Heap} {mg : Str → Option Value} {f : Addr} (X : K.In h) (G : h.Ns mainGlobals mg) (hfa : mg ("law" : Str) = some (.ref f)) (c : He.SaysD fa fn K) :
    ∃ fd : FuncData, (∀ (s : Shared) (v : Value), BindsTo s fd ⟨[v], []⟩ [("_law_script", v)]) ∧ ∀ base : Heap, K.In base → base.Ns mainGlobals mg → FnOk P w K mg base CX0 15 f fd ["_law_script"] (spD K 1 (runs 15 35)) := by
  obtain ⟨fd_ends_leads, F_ends_leads⟩ := c.def_ 0 (d := d_ends_leads) rfl
  obtain ⟨fd_leads, F_leads⟩ := c.def_ 1 (d := d_leads) rfl
  obtain ⟨fd_ends_args, F_ends_args⟩ := c.def_ 2 (d := d_ends_args) rfl
  obtain ⟨fd_params_in, F_params_in⟩ := c.def_ 3 (d := d_params_in) rfl
  obtain ⟨fd_noted, F_noted⟩ := c.def_ 4 (d := d_noted) rfl
  obtain ⟨fd_living_behind, F_living_behind⟩ := c.def_ 5 (d := d_living_behind) rfl
  obtain ⟨fd_living_ahead, F_living_ahead⟩ := c.def_ 6 (d := d_living_ahead) rfl
  obtain ⟨fd_living_dicts, F_living_dicts⟩ := c.def_ 7 (d := d_living_dicts) rfl
  obtain ⟨fd_living, F_living⟩ := c.def_ 8 (d := d_living) rfl
  obtain ⟨fd__law_pot, F__law_pot⟩ := c.def_ 9 (d := d__law_pot) rfl
  obtain ⟨fd__law_mix, F__law_mix⟩ := c.def_ 10 (d := d__law_mix) rfl
  obtain ⟨fd__law_take, F__law_take⟩ := c.def_ 11 (d := d__law_take) rfl
  obtain ⟨fd__law_ops, F__law_ops⟩ := c.def_ 12 (d := d__law_ops) rfl
  obtain ⟨fd__law_put, F__law_put⟩ := c.def_ 13 (d := d__law_put) rfl
  obtain ⟨fd__law_name, F__law_name⟩ := c.def_ 14 (d := d__law_name) rfl
  obtain ⟨fd__law_straight, F__law_straight⟩ := c.def_ 15 (d := d__law_straight) rfl
  obtain ⟨fd__law_open, F__law_open⟩ := c.def_ 16 (d := d__law_open) rfl
  obtain ⟨fd__law_begin, F__law_begin⟩ := c.def_ 17 (d := d__law_begin) rfl
  obtain ⟨fd__law_end, F__law_end⟩ := c.def_ 18 (d := d__law_end) rfl
  obtain ⟨fd__law_choice, F__law_choice⟩ := c.def_ 19 (d := d__law_choice) rfl
  obtain ⟨fd__law_loop, F__law_loop⟩ := c.def_ 20 (d := d__law_loop) rfl
  obtain ⟨fd__law_body, F__law_body⟩ := c.def_ 21 (d := d__law_body) rfl
  obtain ⟨fd__law_function, F__law_function⟩ := c.def_ 22 (d := d__law_function) rfl
  obtain ⟨fd__law_middle, F__law_middle⟩ := c.def_ 23 (d := d__law_middle) rfl
  obtain ⟨fd__law_other, F__law_other⟩ := c.def_ 24 (d := d__law_other) rfl
  obtain ⟨fd__law_other_end, F__law_other_end⟩ := c.def_ 25 (d := d__law_other_end) rfl
  obtain ⟨fd__law_other_row, F__law_other_row⟩ := c.def_ 26 (d := d__law_other_row) rfl
  obtain ⟨fd__law_renamed, F__law_renamed⟩ := c.def_ 27 (d := d__law_renamed) rfl
  obtain ⟨fd__law_asked_by, F__law_asked_by⟩ := c.def_ 28 (d := d__law_asked_by) rfl
  obtain ⟨fd__law_goals, F__law_goals⟩ := c.def_ 29 (d := d__law_goals) rfl
  obtain ⟨fd__law_met, F__law_met⟩ := c.def_ 30 (d := d__law_met) rfl
  obtain ⟨fd__law_lives, F__law_lives⟩ := c.def_ 31 (d := d__law_lives) rfl
  obtain ⟨fd__law_params, F__law_params⟩ := c.def_ 32 (d := d__law_params) rfl
  obtain ⟨fd__law_given, F__law_given⟩ := c.def_ 33 (d := d__law_given) rfl
  obtain ⟨fd__law_changed, F__law_changed⟩ := c.def_ 34 (d := d__law_changed) rfl
  obtain ⟨fd_law, F_law⟩ := c.def_ 35 (d := d_law) rfl
  have e := hfa.symm.trans (He.glo_ok X G (c.fact 35 (f := .glo "law") rfl))
  cases e
  have b := FunD.bindsA (ps := ["_law_script"]) F_law fun _ _ _ _ _ _ us hl => match us, hl with | [_], _ => rfl
  refine ⟨fd_law, fun s v => b s [v] rfl, fun base _ _ => ?_⟩
  have all := ok_all (P := P) (w := w) (base := base) F_ends_leads (He.glo_ok X G (c.fact 0 (f := .glo "ends_leads") rfl)) F_leads (He.glo_ok X G (c.fact 1 (f := .glo "leads") rfl)) F_ends_args (He.glo_ok X G (c.fact 2 (f := .glo "ends_args") rfl)) F_params_in (He.glo_ok X G (c.fact 3 (f := .glo "params_in") rfl)) F_noted (He.glo_ok X G (c.fact 4 (f := .glo "noted") rfl)) F_living_behind (He.glo_ok X G (c.fact 5 (f := .glo "living_behind") rfl)) F_living_ahead (He.glo_ok X G (c.fact 6 (f := .glo "living_ahead") rfl)) F_living_dicts (He.glo_ok X G (c.fact 7 (f := .glo "living_dicts") rfl)) F_living (He.glo_ok X G (c.fact 8 (f := .glo "living") rfl)) F__law_pot (He.glo_ok X G (c.fact 9 (f := .glo "_law_pot") rfl)) F__law_mix (He.glo_ok X G (c.fact 10 (f := .glo "_law_mix") rfl)) F__law_take (He.glo_ok X G (c.fact 11 (f := .glo "_law_take") rfl)) F__law_ops (He.glo_ok X G (c.fact 12 (f := .glo "_law_ops") rfl)) F__law_put (He.glo_ok X G (c.fact 13 (f := .glo "_law_put") rfl)) F__law_name (He.glo_ok X G (c.fact 14 (f := .glo "_law_name") rfl)) F__law_straight (He.glo_ok X G (c.fact 15 (f := .glo "_law_straight") rfl)) F__law_open (He.glo_ok X G (c.fact 16 (f := .glo "_law_open") rfl)) F__law_begin (He.glo_ok X G (c.fact 17 (f := .glo "_law_begin") rfl)) F__law_end (He.glo_ok X G (c.fact 18 (f := .glo "_law_end") rfl)) F__law_choice (He.glo_ok X G (c.fact 19 (f := .glo "_law_choice") rfl)) F__law_loop (He.glo_ok X G (c.fact 20 (f := .glo "_law_loop") rfl)) F__law_body (He.glo_ok X G (c.fact 21 (f := .glo "_law_body") rfl)) F__law_function (He.glo_ok X G (c.fact 22 (f := .glo "_law_function") rfl)) F__law_middle (He.glo_ok X G (c.fact 23 (f := .glo "_law_middle") rfl)) F__law_other (He.glo_ok X G (c.fact 24 (f := .glo "_law_other") rfl)) F__law_other_end (He.glo_ok X G (c.fact 25 (f := .glo "_law_other_end") rfl)) F__law_other_row (He.glo_ok X G (c.fact 26 (f := .glo "_law_other_row") rfl)) F__law_renamed (He.glo_ok X G (c.fact 27 (f := .glo "_law_renamed") rfl)) F__law_asked_by (He.glo_ok X G (c.fact 28 (f := .glo "_law_asked_by") rfl)) F__law_goals (He.glo_ok X G (c.fact 29 (f := .glo "_law_goals") rfl)) F__law_met (He.glo_ok X G (c.fact 30 (f := .glo "_law_met") rfl)) F__law_lives (He.glo_ok X G (c.fact 31 (f := .glo "_law_lives") rfl)) F__law_params (He.glo_ok X G (c.fact 32 (f := .glo "_law_params") rfl)) F__law_given (He.glo_ok X G (c.fact 33 (f := .glo "_law_given") rfl)) F__law_changed (He.glo_ok X G (c.fact 34 (f := .glo "_law_changed") rfl)) F_law (He.glo_ok X G (c.fact 35 (f := .glo "law") rfl)) (He.free_ok X G (c.fact 48 (f := .free "sorted") rfl)) (He.free_ok X G (c.fact 47 (f := .free "set") rfl)) (He.free_ok X G (c.fact 43 (f := .free "list") rfl)) (He.free_ok X G (c.fact 38 (f := .free "dict") rfl)) (He.free_ok X G (c.fact 46 (f := .free "reversed") rfl)) (He.free_ok X G (c.fact 45 (f := .free "range") rfl)) (He.free_ok X G (c.fact 42 (f := .free "len") rfl)) (He.free_ok X G (c.fact 36 (f := .free "abs") rfl)) (He.free_ok X G (c.fact 39 (f := .free "enumerate") rfl)) (He.free_ok X G (c.fact 49 (f := .free "tuple") rfl)) (He.free_ok X G (c.fact 50 (f := .free "zip") rfl)) (He.free_ok X G (c.fact 44 (f := .free "min") rfl)) (He.free_ok X G (c.fact 40 (f := .free "int") rfl)) (He.free_ok X G (c.fact 41 (f := .free "isinstance") rfl)) (He.free_ok X G (c.fact 37 (f := .free "all") rfl)) 15
  exact all.2.2.2.2.2.2.2.2.2.2.2.2.2.2.2.2.2.2.2.2.2.2.2.2.2.2.2.2.2.2.2.2.2.2.2
end Hd
open PySem PySem.W PySem.Calls PyProof.Rows
set_option maxRecDepth 100000 in
set_option maxHeartbeats 0 in
theorem PySem.Challenge.cw_chainwright_k71_living_walked_holds : PySem.Challenge.rw_chainwright_k71_living_walked.Holds := by
  w_on; o_law
  refine HandSHeadRun.head_any (r := OpenLaw.row PySem.Challenge.rw_chainwright_k71_living_walked) (q := view (OpenLaw.row PySem.Challenge.rw_chainwright_k71_living_walked).prog [39]) (H := Hd.hk) (ob := Hd.ob) (M := 3000) (loose := Hd.loose) (d := HandSHeadRun.topDef (OpenLaw.row PySem.Challenge.rw_chainwright_k71_living_walked).prog 39) (kwd := []) Hd.ob_eq
    (by kernel_rfl) (fun s => by kernel_rfl) Hd.run (by kernel_rfl) (by kernel_rfl) (by kernel_rfl) (by rfl) (by first | assumption | decide +kernel) (by decide +kernel) ⟨rfl, rfl, rfl, rfl, rfl, by decide +kernel⟩ ?hw ?hc
  case hw => w_witness2
  case hc =>
    refine L2.walk_ofE (l := PySem.Challenge.rw_chainwright_k71_living_walked) (n := 63) (k := 15) (x := "_law_script") (CX := L2.CX0) rfl (by decide) (by kernel_rfl) ⟨rfl, by decide, by decide⟩ ?F (fun _ _ _ _ z => z)
    intro w mg fa h Y G hmg0
    obtain ⟨K, KX, c⟩ := Y
    have hmg : mg ("law" : PySem.Str) = some (.ref fa) := by
      have e : (HandSHeadRun.topDef (OpenLaw.row PySem.Challenge.rw_chainwright_k71_living_walked).prog 39).name = ("law" : PySem.Str) := by kernel_rfl
      rw [← e]
      exact hmg0
    obtain ⟨fd, hb, hF⟩ := Hd.facts (P := (PySem.Challenge.rw_chainwright_k71_living_walked).prog) (w := w) KX G hmg c
    exact ⟨K, fd, Dn.spD K 1 (Hd.runs 15 35), KX, hb, fun H a ns hl ho hS => Mw.start_ok ho hS (fun st h => Mw.law_ok (k := 0) h), hF⟩
