import PyProof.Rows.All
import Wide.All
import OpenK.AllK
import Wide.FinOn
import HandS.ForMost
import HandS.ForExc
import HandS.Deep
import HandS.Flow
import HandS.CallSlots
import HandS.TupAny
import HandS.Wide
import HandS.Rev
import HandS.RevRange
import HandS.Style
import HandS.Conv
import HandS.More
import HandS.Strs
import HandS.SortKw
import HandS.IsInst
import HandS.Small
import PyProof.SeqIndex
import KE.KIndexOf
import KE.SortData
import KE.KExcSuper
import KE.KSuper
import HandS.ExcInit
import HandS.ExcIs
import HandS.ExcField
import HandS.ExcOwn
import HandS.TryOnly
import KE.KRevSl
import HandS.RevTup
import PyProof.ListRange
import HandS.Dict
import HandS.TryMany
import PySem.Challenge.RW_snagdesk_k24_core_and_tests
set_option Elab.async false
set_option linter.all false
set_option maxRecDepth 100000
set_option maxHeartbeats 8000000
/-! Ev1: data as trees, the tracked heap as a list, how both stand for the layer's values and heap. -/
namespace Ev
open PySem PyProof.Rows L2

/-- a value: tuples and closed lists are trees; ref i: the i-th open object -/
inductive D where
  | non | bl (b : Bool) | int (i : Int) | str (s : List Nat) | tup (xs : List D) | lst (xs : List D) | scr (xs : List D) | ref (i : Nat) | exc (a : Addr) (dd : Option Addr) (nm : List Str) (fs : List D)
/-- an open object -/
inductive O where
  | lst (xs : List D) | dict (kvs : List (D × D)) | dead
abbrev Hd := List O
inductive Res (α : Type) where
  | ok (a : α) (h : Hd) | exn (c : Nat) (fs : List D) (h : Hd) | stuck
def Res.bind {α β : Type} (r : Res α) (k : α → Hd → Res β) : Res β :=
  match r with
  | .ok a h => k a h
  | .exn c fs h => .exn c fs h
  | .stuck => .stuck

mutual
def D.lo (n : Nat) : D → Prop
  | .ref i => i < n
  | .tup xs => D.loA n xs
  | .lst xs => D.loA n xs
  | .scr xs => D.loA n xs
  | .exc _ _ _ xs => D.loA n xs
  | _ => True
def D.loA (n : Nat) : List D → Prop
  | [] => True
  | x :: xs => D.lo n x ∧ D.loA n xs
end
theorem D.loA_iff {n : Nat} : ∀ {xs : List D}, D.loA n xs ↔ ∀ x ∈ xs, D.lo n x
  | [] => by simp [D.loA]
  | x :: xs => by simp [D.loA, D.loA_iff (xs := xs)]
def O.lo (n : Nat) : O → Prop
  | .lst xs => D.loA n xs
  | .dict kvs => D.loA n (kvs.map (·.1)) ∧ D.loA n (kvs.map (·.2))
  | .dead => True

/-- where the open objects stand (none: closed for good); hid: objects that nobody may speak of -/
structure Rho where
  l : List (Option Addr)
  hid : List Addr
def Rho.has (r : Rho) (a : Addr) : Prop := some a ∈ r.l ∨ a ∈ r.hid
abbrev Rho.add (r : Rho) (p : Addr) : Rho := ⟨r.l ++ [some p], r.hid⟩
abbrev Rho.shut (r : Rho) (i : Nat) : Rho := ⟨r.l.set i none, r.hid⟩
abbrev Rho.cut (r : Rho) (n : Nat) : Rho := ⟨r.l.take n, r.hid⟩
abbrev Rho.nil : Rho := ⟨[], []⟩
abbrev Rho.hide (r : Rho) (p : Addr) : Rho := ⟨r.l, p :: r.hid⟩
def FzS (K : PySem.W.Frag) (H : Hp) (r : Rho) (a : Addr) (vs : List V) : Prop := (Rd H a (.lst vs) ∧ ¬ r.has a) ∨ SqL K (fun _ => none) a vs
def FzL (H : Hp) (r : Rho) (a : Addr) (vs : List V) : Prop := H a = some (.lst vs) ∧ ¬ r.has a
/-- a tuple's object as it is made -/
def PlainT (o : Obj) : Prop := ∃ its n, o = { cls := .type "tuple", dict := none, data := .seq its n, slots := #[] }
def FzT (K : PySem.W.Frag) (H : Hp) (r : Rho) (a : Addr) (vs : List V) : Prop :=
  (∃ o, H a = some (.frz o (.tup vs)) ∧ PlainT o ∧ ¬ r.has a) ∨ (SqT K (fun _ => none) a vs ∧ ∃ o, K.lookup a = some o ∧ PlainT o)
theorem no_rd {a : Addr} {u : HO} (h : Rd (fun _ => none) a u) : False := by
  rcases h with h | ⟨o, h⟩ <;> cases h
theorem FzL.seq {K : PySem.W.Frag} {H : Hp} {r : Rho} {a : Addr} {vs : List V} (h : FzL H r a vs) : SqL K H a vs := .inl (.inl h.1)
theorem FzS.seq {K : PySem.W.Frag} {H : Hp} {r : Rho} {a : Addr} {vs : List V} (h : FzS K H r a vs) : SqL K H a vs := by
  rcases h with h | h
  · exact .inl h.1
  · rcases h with h | h
    · exact (no_rd h).elim
    · exact .inr h
theorem FzT.seq {K : PySem.W.Frag} {H : Hp} {r : Rho} {a : Addr} {vs : List V} (h : FzT K H r a vs) : SqT K H a vs := by
  rcases h with ⟨o, h, _⟩ | ⟨h, _⟩
  · exact .inl (.inr ⟨o, h⟩)
  · rcases h with h | h
    · exact (no_rd h).elim
    · exact .inr h

/-- a text's signs are signs, it is not too long -/
def SOk (x : Str) : Prop := PySem.PyData.strOk x = true ∧ x.cps.size ≤ 1000000
mutual
/-- v, in the heap H, stands for the datum -/
inductive Rep (K : PySem.W.Frag) (H : Hp) (r : Rho) : V → D → Prop
  | non : Rep K H r .non .non
  | bl (b : Bool) : Rep K H r (.bl b) (.bl b)
  | int (i : Int) : Rep K H r (.int i) (.int i)
  | str (x : Str) : SOk x → Rep K H r (.str x) (.str x.cps.toList)
  | tup {a : Addr} {vs : List V} {ds : List D} : FzT K H r a vs → RepA K H r vs ds → Rep K H r (.ref a) (.tup ds)
  | lst {a : Addr} {vs : List V} {ds : List D} : FzL H r a vs → RepA K H r vs ds → Rep K H r (.ref a) (.lst ds)
  | scr {a : Addr} {vs : List V} {ds : List D} : FzS K H r a vs → RepA K H r vs ds → Rep K H r (.ref a) (.scr ds)
  | ref {a : Addr} {i : Nat} : r.l[i]? = some (some a) → Rep K H r (.ref a) (.ref i)
  | dead {v : V} {i : Nat} : r.l[i]? = some none → Rep K H r v (.ref i)
  | exc {a : Addr} {dd : Option Addr} {nm : List Str} {vs : List V} {ds : List D} : ((∃ d, dd = some d ∧ H d = some (.xd (nm.zip vs)) ∧ ¬ r.has d) ∨ dd = none) → (dd = none → ds = []) → vs.length = nm.length → RepA K H r vs ds → Rep K H r (.ref a) (.exc a dd nm ds)
inductive RepA (K : PySem.W.Frag) (H : Hp) (r : Rho) : List V → List D → Prop
  | nil : RepA K H r [] []
  | cons {v : V} {vs : List V} {d : D} {ds : List D} : Rep K H r v d → RepA K H r vs ds → RepA K H r (v :: vs) (d :: ds)
end

/-- what may have come to pass: closed things stay, open ones are the old ones or new -/
structure Ext (r : Rho) (H : Hp) (r' : Rho) (H' : Hp) : Prop where
  keep : ∀ a o, H a = some o → ¬ r.has a → H' a = some o
  new : ∀ a, r'.has a → r.has a ∨ H a = none
  hid : r'.hid = r.hid
  hkeep : ∀ a o, a ∈ r.hid → H a = some o → H' a = some o
  pre : ∀ (i : Nat) o, r.l[i]? = some o → r'.l[i]? = some o ∨ r'.l[i]? = some none

section
variable {K : PySem.W.Frag} {H H1 H2 H' : Hp} {r r1 r2 r' : Rho}
theorem Ext.refl (r : Rho) (H : Hp) : Ext r H r H := ⟨fun _ _ h _ => h, fun _ h => .inl h, rfl, fun _ _ _ h => h, fun _ _ h => .inl h⟩
theorem Ext.trans (x : Ext r H r1 H1) (y : Ext r1 H1 r2 H2) : Ext r H r2 H2 := by
  refine ⟨fun a o h n => ?_, fun a h => ?_, y.hid.trans x.hid, fun a o m h => y.hkeep a o (by rw [x.hid]; exact m) (x.hkeep a o m h), fun i o h => ?_⟩
  · refine y.keep a o (x.keep a o h n) fun m => ?_
    rcases x.new a m with q | q
    · exact n q
    · rw [h] at q; cases q
  · rcases y.new a h with q | q
    · exact x.new a q
    · cases e : H a with
      | none => exact .inr rfl
      | some o =>
        by_cases n : r.has a
        · exact .inl n
        · rw [x.keep a o e n] at q; cases q
  · rcases x.pre i o h with q | q
    · exact y.pre i o q
    · rcases y.pre i none q with z | z <;> exact .inr z
theorem Ext.rd {a : Addr} {u : HO} (x : Ext r H r' H') (h : Rd H a u) (n : ¬ r.has a) : Rd H' a u ∧ ¬ r'.has a := by
  refine ⟨?_, fun m => ?_⟩
  · rcases h with h | ⟨o, h⟩
    · exact .inl (x.keep a _ h n)
    · exact .inr ⟨o, x.keep a _ h n⟩
  · rcases x.new a m with q | q
    · exact n q
    · rcases h with h | ⟨o, h⟩
      · rw [h] at q; cases q
      · rw [h] at q; cases q
theorem Ext.fxd {dd : Option Addr} {fs : List (Str × V)} (x : Ext r H r' H') (h : (∃ d, dd = some d ∧ H d = some (.xd fs) ∧ ¬ r.has d) ∨ dd = none) : (∃ d, dd = some d ∧ H' d = some (.xd fs) ∧ ¬ r'.has d) ∨ dd = none :=
  h.imp (fun ⟨d, e, q, n⟩ => ⟨d, e, x.keep _ _ q n, (x.rd (.inl q) n).2⟩) id
theorem Ext.fzl {a : Addr} {vs : List V} (x : Ext r H r' H') (h : FzL H r a vs) : FzL H' r' a vs :=
  ⟨x.keep _ _ h.1 h.2, (x.rd (.inl h.1) h.2).2⟩
theorem Ext.fzs {a : Addr} {vs : List V} (x : Ext r H r' H') (h : FzS K H r a vs) : FzS K H' r' a vs := by
  rcases h with h | h
  · exact .inl (x.rd h.1 h.2)
  · exact .inr h
theorem Ext.fzt {a : Addr} {vs : List V} (x : Ext r H r' H') (h : FzT K H r a vs) : FzT K H' r' a vs := by
  rcases h with ⟨o, h, d, n⟩ | h
  · exact .inl ⟨o, x.keep _ _ h n, d, (x.rd (.inl h) n).2⟩
  · exact .inr h
mutual
theorem Rep.mono (x : Ext r H r' H') : ∀ {d : D} {v : V}, Rep K H r v d → Rep K H' r' v d
  | _, _, .non => .non
  | _, _, .bl b => .bl b
  | _, _, .int i => .int i
  | _, _, .str z h => .str z h
  | _, _, .tup h k => .tup (x.fzt h) (RepA.mono x k)
  | _, _, .lst h k => .lst (x.fzl h) (RepA.mono x k)
  | _, _, .scr h k => .scr (x.fzs h) (RepA.mono x k)
  | _, _, .ref h => (x.pre _ _ h).elim (fun q => .ref q) fun q => .dead q
  | _, _, .dead h => (x.pre _ _ h).elim (fun q => .dead q) fun q => .dead q
  | _, _, .exc h z l k => .exc (x.fxd h) z l (RepA.mono x k)
theorem RepA.mono (x : Ext r H r' H') : ∀ {ds : List D} {vs : List V}, RepA K H r vs ds → RepA K H' r' vs ds
  | _, _, .nil => .nil
  | _, _, .cons h k => .cons (Rep.mono x h) (RepA.mono x k)
end
theorem RepA.len : ∀ {ds : List D} {vs : List V}, RepA K H r vs ds → vs.length = ds.length
  | _, _, .nil => rfl
  | _, _, .cons _ k => by rw [List.length_cons, List.length_cons, RepA.len k]
theorem RepA.app : ∀ {ds es : List D} {vs us : List V}, RepA K H r vs ds → RepA K H r us es → RepA K H r (vs ++ us) (ds ++ es)
  | _, _, _, _, .nil, k => k
  | _, _, _, _, .cons h k, l => .cons h (RepA.app k l)
theorem RepA.get : ∀ {ds : List D} {vs : List V} {i : Nat} {v : V}, RepA K H r vs ds → vs[i]? = some v → ∃ d, ds[i]? = some d ∧ Rep K H r v d
  | _, _, _, _, .nil, e => by simp at e
  | _, _, 0, _, .cons h _, e => by simp at e; subst e; exact ⟨_, rfl, h⟩
  | _, _, i + 1, v, .cons _ k, e => by
    obtain ⟨d, h1, h2⟩ := RepA.get (i := i) (v := v) k (by simpa using e)
    exact ⟨d, by simpa using h1, h2⟩
theorem RepA.get' : ∀ {ds : List D} {vs : List V} {i : Nat} {d : D}, RepA K H r vs ds → ds[i]? = some d → ∃ v, vs[i]? = some v ∧ Rep K H r v d
  | _, _, _, _, .nil, e => by simp at e
  | _, _, 0, _, .cons h _, e => by simp at e; subst e; exact ⟨_, rfl, h⟩
  | _, _, i + 1, d, .cons _ k, e => by
    obtain ⟨v, h1, h2⟩ := RepA.get' (i := i) (d := d) k (by simpa using e)
    exact ⟨v, by simpa using h1, h2⟩
theorem RepA.take : ∀ {ds : List D} {vs : List V} (n : Nat), RepA K H r vs ds → RepA K H r (vs.take n) (ds.take n)
  | _, _, 0, _ => by simpa using RepA.nil
  | _, _, _ + 1, .nil => by simpa using RepA.nil
  | _, _, n + 1, .cons h k => by simpa using RepA.cons h (RepA.take n k)
theorem RepA.drop : ∀ {ds : List D} {vs : List V} (n : Nat), RepA K H r vs ds → RepA K H r (vs.drop n) (ds.drop n)
  | _, _, 0, k => by simpa using k
  | _, _, _ + 1, .nil => by simpa using RepA.nil
  | _, _, n + 1, .cons h k => by simpa using RepA.drop n k
theorem RepA.set {v : V} {d : D} (q : Rep K H r v d) : ∀ {ds : List D} {vs : List V} (n : Nat), RepA K H r vs ds → RepA K H r (vs.set n v) (ds.set n d)
  | _, _, _, .nil => .nil
  | _, _, 0, .cons h k => .cons q k
  | _, _, n + 1, .cons h k => .cons h (RepA.set q n k)
theorem RepA.rev {ds : List D} {vs : List V} (k : RepA K H r vs ds) : RepA K H r vs.reverse ds.reverse := by
  induction ds generalizing vs with
  | nil => cases k; exact .nil
  | cons d ds ih =>
    cases k with
    | cons h k => rw [List.reverse_cons, List.reverse_cons]; exact (ih k).app (.cons h .nil)
theorem RepA.ofGet : ∀ {ds : List D} {vs : List V}, vs.length = ds.length → (∀ (i : Nat) v d, vs[i]? = some v → ds[i]? = some d → Rep K H r v d) → RepA K H r vs ds
  | [], [], _, _ => .nil
  | [], _ :: _, h, _ => by simp at h
  | _ :: _, [], h, _ => by simp at h
  | d :: ds, v :: vs, h, k => .cons (k 0 v d rfl rfl) (RepA.ofGet (by simpa using h) fun i v d e1 e2 => k (i + 1) v d (by simpa using e1) (by simpa using e2))

/-- the open objects -/
def KeyD : Key → D
  | .inl i => .int i
  | .inr x => .str x.cps.toList
def KeyOk : Key → Prop
  | .inl _ => True
  | .inr x => SOk x
inductive RepK (K : PySem.W.Frag) (H : Hp) (r : Rho) : List (Key × V) → List (D × D) → Prop
  | nil : RepK K H r [] []
  | cons {k : Key} {v : V} {d : D} {kvs : List (Key × V)} {es : List (D × D)} : KeyOk k → Rep K H r v d → RepK K H r kvs es → RepK K H r ((k, v) :: kvs) ((KeyD k, d) :: es)
def OR (K : PySem.W.Frag) (H : Hp) (r : Rho) (a : Addr) : O → Prop
  | .lst ds => ∃ vs, H a = some (.lst vs) ∧ RepA K H r vs ds
  | .dict es => ∃ kvs, H a = some (.dK kvs) ∧ RepK K H r kvs es
  | .dead => False
structure R (K : PySem.W.Frag) (r : Rho) (h : Hd) (H : Hp) : Prop where
  len : r.l.length = h.length
  inj : ∀ (i j : Nat) a, r.l[i]? = some (some a) → r.l[j]? = some (some a) → i = j
  get : ∀ (i : Nat) a, r.l[i]? = some (some a) → ∃ o, h[i]? = some o ∧ OR K H r a o
  dead : ∀ (i : Nat), r.l[i]? = some none → h[i]? = some .dead
  hid : ∀ a, a ∈ r.hid → H a ≠ none ∧ some a ∉ r.l
theorem RepK.mono (x : Ext r H r' H') : ∀ {es : List (D × D)} {kvs : List (Key × V)}, RepK K H r kvs es → RepK K H' r' kvs es
  | _, _, .nil => .nil
  | _, _, .cons h k l => .cons h (k.mono x) (RepK.mono x l)
/-- an open object that was not touched -/
theorem OR.mono {a : Addr} {o : O} (x : Ext r H r' H') (e : H' a = H a) (h : OR K H r a o) : OR K H' r' a o := by
  cases o with
  | lst ds => obtain ⟨vs, h1, h2⟩ := h; exact ⟨vs, e.trans h1, h2.mono x⟩
  | dict es => obtain ⟨kvs, h1, h2⟩ := h; exact ⟨kvs, e.trans h1, h2.mono x⟩
  | dead => exact h.elim
theorem OR.some {a : Addr} {o : O} (h : OR K H r a o) : ∃ u, H a = some u ∧ Mut (some u) := by
  cases o with
  | lst ds => obtain ⟨vs, h1, h2⟩ := h; exact ⟨_, h1, trivial⟩
  | dict es => obtain ⟨kvs, h1, h2⟩ := h; exact ⟨_, h1, trivial⟩
  | dead => exact h.elim
variable {h h' : Hd}
theorem R.live (x : R K r h H) {a : Addr} (m : some a ∈ r.l) : ∃ (i : Nat) (o : O), r.l[i]? = some (some a) ∧ h[i]? = some o ∧ OR K H r a o := by
  obtain ⟨i, hi⟩ := List.mem_iff_getElem?.mp m
  obtain ⟨o, h1, h2⟩ := x.get i a hi
  exact ⟨i, o, hi, h1, h2⟩
theorem R.fresh (x : R K r h H) {p : Addr} (n : H p = none) : ¬ r.has p := fun m => by
  rcases m with m | m
  · obtain ⟨i, o, _, _, h2⟩ := x.live m
    obtain ⟨u, e, _⟩ := h2.some
    rw [n] at e; cases e
  · exact (x.hid p m).1 n
theorem Ext.laid {p : Addr} {o : HO} (n : H p = none) : Ext r H r (upd H p o) :=
  ⟨fun a u h _ => by rw [upd_ne (ne_of_none h n)]; exact h, fun _ h => .inl h, rfl, fun a u _ h => by rw [upd_ne (ne_of_none h n)]; exact h, fun _ _ h => .inl h⟩
theorem upd_some {p a : Addr} {o : HO} (h : H a ≠ none) : upd H p o a ≠ none := by
  by_cases e : a = p
  · subst e; rw [upd_same]; exact fun z => by cases z
  · rw [upd_ne e]; exact h
/-- a new closed object -/
theorem R.laid (x : R K r h H) {p : Addr} {o : HO} (n : H p = none) : R K r h (upd H p o) := by
  refine ⟨x.len, x.inj, fun i a e => ?_, x.dead, fun a m => ⟨upd_some (x.hid a m).1, (x.hid a m).2⟩⟩
  obtain ⟨u, h1, h2⟩ := x.get i a e
  refine ⟨u, h1, h2.mono (Ext.laid n) ?_⟩
  obtain ⟨z, e, _⟩ := h2.some
  rw [upd_ne (ne_of_none e n)]
theorem add_get {i : Nat} {p : Addr} {o : Option Addr} (e : (r.add p).l[i]? = some o) : (i < r.l.length ∧ r.l[i]? = some o) ∨ (i = r.l.length ∧ o = some p) := by
  have e : (r.l ++ [some p])[i]? = some o := e
  by_cases hi : i < r.l.length
  · rw [List.getElem?_append_left hi] at e
    exact .inl ⟨hi, e⟩
  · have hl := (List.getElem?_eq_some_iff.mp e).1
    simp at hl
    have hi' : i = r.l.length := by omega
    subst hi'
    rw [List.getElem?_append_right (Nat.le_refl _)] at e
    simp at e
    exact .inr ⟨rfl, e.symm⟩
theorem add_has {p a : Addr} (h : (r.add p).has a) : r.has a ∨ a = p := by
  rcases h with h | h
  · rcases List.mem_append.mp h with h | h
    · exact .inl (.inl h)
    · exact .inr (by simpa using h)
  · exact .inl (.inr h)
/-- a new open object -/
theorem Ext.push {p : Addr} {o : HO} (n : H p = none) : Ext r H (r.add p) (upd H p o) := by
  refine ⟨fun a u h _ => by rw [upd_ne (ne_of_none h n)]; exact h, fun a h => ?_, rfl, fun a u _ h => by rw [upd_ne (ne_of_none h n)]; exact h, fun i o h => ?_⟩
  · rcases add_has h with h | rfl
    · exact .inl h
    · exact .inr n
  · refine .inl ?_
    show (r.l ++ [some p])[i]? = some o
    rw [List.getElem?_append_left (List.getElem?_eq_some_iff.mp h).1]
    exact h
/-- an object that nobody speaks of becomes an open one -/
theorem R.adopt (x : R K r h H) {r0 : Rho} {p : Addr} {o : O} (n : some p ∉ r.l) (e : r = ⟨r0.l, r.hid⟩) (hh : ∀ a, a ∈ r0.hid → a ∈ r.hid ∧ a ≠ p) (mo : ∀ a o, OR K H r a o → OR K H (r0.add p) a o) (q : OR K H (r0.add p) p o) : R K (r0.add p) (h ++ [o]) H := by
  have el : r.l = r0.l := by rw [e]
  refine ⟨?_, fun i j a e1 e2 => ?_, fun i a e1 => ?_, fun i e1 => ?_, fun a m => ?_⟩
  · show (r0.l ++ [some p]).length = _
    rw [List.length_append, List.length_append, ← el, x.len]; rfl
  · rcases add_get e1 with ⟨h1, e1⟩ | ⟨rfl, h1⟩
    · rcases add_get e2 with ⟨h2, e2⟩ | ⟨rfl, h2⟩
      · exact x.inj i j a (by rw [el]; exact e1) (by rw [el]; exact e2)
      · cases h2
        exact absurd (List.mem_iff_getElem?.mpr ⟨i, by rw [el]; exact e1⟩) n
    · cases h1
      rcases add_get e2 with ⟨h2, e2⟩ | ⟨rfl, h2⟩
      · exact absurd (List.mem_iff_getElem?.mpr ⟨j, by rw [el]; exact e2⟩) n
      · rfl
  · rcases add_get e1 with ⟨h1, e1⟩ | ⟨rfl, h1⟩
    · obtain ⟨o', h3, h4⟩ := x.get i a (by rw [el]; exact e1)
      exact ⟨o', by rw [List.getElem?_append_left (by rw [← x.len, el]; exact h1)]; exact h3, mo _ _ h4⟩
    · cases h1
      exact ⟨o, by rw [← el, x.len, List.getElem?_append_right (Nat.le_refl _)]; simp, q⟩
  · rcases add_get e1 with ⟨h1, e1⟩ | ⟨rfl, h1⟩
    · rw [List.getElem?_append_left (by rw [← x.len, el]; exact h1)]
      exact x.dead i (by rw [el]; exact e1)
    · cases h1
  · obtain ⟨m1, m2⟩ := hh a m
    obtain ⟨h1, h2⟩ := x.hid a m1
    refine ⟨h1, fun z => ?_⟩
    rcases List.mem_append.mp z with z | z
    · exact h2 (by rw [el]; exact z)
    · exact m2 (by simpa using z)
theorem R.push (x : R K r h H) {p : Addr} {u : HO} {o : O} (n : H p = none) (q : OR K (upd H p u) (r.add p) p o) : R K (r.add p) (h ++ [o]) (upd H p u) := by
  have np := x.fresh n
  refine ⟨?_, fun i j a e1 e2 => ?_, fun i a e1 => ?_, fun i e1 => ?_, fun a m => ?_⟩
  · show (r.l ++ [some p]).length = _
    rw [List.length_append, List.length_append, x.len]; rfl
  · rcases add_get e1 with ⟨h1, e1⟩ | ⟨rfl, h1⟩
    · rcases add_get e2 with ⟨h2, e2⟩ | ⟨rfl, h2⟩
      · exact x.inj i j a e1 e2
      · cases h2
        exact absurd (.inl (List.mem_iff_getElem?.mpr ⟨i, e1⟩)) np
    · cases h1
      rcases add_get e2 with ⟨h2, e2⟩ | ⟨rfl, h2⟩
      · exact absurd (.inl (List.mem_iff_getElem?.mpr ⟨j, e2⟩)) np
      · rfl
  · rcases add_get e1 with ⟨h1, e1⟩ | ⟨rfl, h1⟩
    · obtain ⟨o', h3, h4⟩ := x.get i a e1
      refine ⟨o', by rw [List.getElem?_append_left (by rw [← x.len]; exact h1)]; exact h3, h4.mono (Ext.push n) ?_⟩
      obtain ⟨z, e, _⟩ := h4.some
      rw [upd_ne (ne_of_none e n)]
    · cases h1
      exact ⟨o, by rw [x.len, List.getElem?_append_right (Nat.le_refl _)]; simp, q⟩
  · rcases add_get e1 with ⟨h1, e1⟩ | ⟨rfl, h1⟩
    · rw [List.getElem?_append_left (by rw [← x.len]; exact h1)]
      exact x.dead i e1
    · cases h1
  · refine ⟨upd_some (x.hid a m).1, fun z => ?_⟩
    rcases List.mem_append.mp z with z | z
    · exact (x.hid a m).2 z
    · have e : a = p := by simpa using z
      subst e
      exact (x.hid a m).1 n
/-- an open object is changed -/
theorem Ext.wrote {a : Addr} {u : HO} (x : R K r h H) (m : some a ∈ r.l) : Ext r H r (upd H a u) :=
  ⟨fun b o h n => by rw [upd_ne (fun e => n (by rw [e]; exact .inl m))]; exact h, fun _ h => .inl h, rfl, fun b o hb h => by rw [upd_ne (fun e => (x.hid b hb).2 (by rw [e]; exact m))]; exact h, fun _ _ h => .inl h⟩
theorem R.wrote (x : R K r h H) {i : Nat} {a : Addr} {u : HO} {o : O} (e : r.l[i]? = some (some a)) (q : OR K (upd H a u) r a o) : R K r (h.set i o) (upd H a u) := by
  have hi : i < h.length := by rw [← x.len]; exact (List.getElem?_eq_some_iff.mp e).1
  refine ⟨by simp [x.len], x.inj, fun j b e2 => ?_, fun j e2 => ?_, fun a m => ⟨upd_some (x.hid a m).1, (x.hid a m).2⟩⟩
  · by_cases hj : j = i
    · subst hj
      rw [e] at e2; cases e2
      exact ⟨o, by rw [List.getElem?_set_self hi], q⟩
    · obtain ⟨o', h1, h2⟩ := x.get j b e2
      refine ⟨o', by rw [List.getElem?_set_ne (Ne.symm hj)]; exact h1, h2.mono (Ext.wrote x (List.mem_iff_getElem?.mpr ⟨i, e⟩)) ?_⟩
      rw [upd_ne]
      rintro rfl
      exact hj (x.inj _ _ _ e2 e)
  · have hj : i ≠ j := by
      rintro rfl
      rw [e] at e2; cases e2
    rw [List.getElem?_set_ne hj]
    exact x.dead j e2
/-- an open list is closed for good -/
theorem set_has {i : Nat} {a : Addr} (h : (r.shut i).has a) : r.has a := by
  rcases h with h | h
  · rcases List.mem_or_eq_of_mem_set h with q | q
    · exact .inl q
    · cases q
  · exact .inr h
theorem Ext.shut {i : Nat} : Ext r H (r.shut i) H := by
  refine ⟨fun _ _ h _ => h, fun a h => .inl (set_has h), rfl, fun _ _ _ h => h, fun j o h => ?_⟩
  show (r.l.set i none)[j]? = some o ∨ (r.l.set i none)[j]? = some none
  by_cases hj : j = i
  · subst hj
    exact .inr (by rw [List.getElem?_set_self (List.getElem?_eq_some_iff.mp h).1])
  · exact .inl (by rw [List.getElem?_set_ne (Ne.symm hj)]; exact h)
theorem R.shut (x : R K r h H) {i : Nat} (hi : i < h.length) : R K (r.shut i) (h.set i .dead) H := by
  have hi' : i < r.l.length := by rw [x.len]; exact hi
  have ne : ∀ {j : Nat} {a : Addr}, (r.l.set i none)[j]? = some (some a) → j ≠ i ∧ r.l[j]? = some (some a) := fun {j a} e => by
    by_cases hj : j = i
    · subst hj
      rw [List.getElem?_set_self hi'] at e; cases e
    · rw [List.getElem?_set_ne (Ne.symm hj)] at e
      exact ⟨hj, e⟩
  refine ⟨by simp [x.len], fun j k a e1 e2 => x.inj j k a (ne e1).2 (ne e2).2, fun j a e => ?_, fun j e => ?_, fun a m => ⟨(x.hid a m).1, fun z => ?_⟩⟩
  · obtain ⟨hj, e⟩ := ne e
    obtain ⟨o, h1, h2⟩ := x.get j a e
    exact ⟨o, by rw [List.getElem?_set_ne (Ne.symm hj)]; exact h1, h2.mono Ext.shut rfl⟩
  · have e : (r.l.set i none)[j]? = some none := e
    by_cases hj : j = i
    · subst hj
      rw [List.getElem?_set_self hi]
    · rw [List.getElem?_set_ne (Ne.symm hj)] at e ⊢
      exact x.dead j e
  · rcases List.mem_or_eq_of_mem_set z with q | q
    · exact (x.hid a m).2 q
    · cases q
/-- a closed list that was open -/
theorem Rep.shut (x : R K r h H) {i : Nat} {a : Addr} {ds : List D} (e : r.l[i]? = some (some a)) (o : h[i]? = some (.lst ds)) : Rep K H (r.shut i) (.ref a) (.lst ds) := by
  obtain ⟨o', h1, h2⟩ := x.get i a e
  rw [o] at h1; cases h1
  obtain ⟨vs, h3, h4⟩ := h2
  refine .lst ⟨h3, fun m => ?_⟩ (h4.mono Ext.shut)
  rcases m with m | m
  · obtain ⟨j, hj⟩ := List.mem_iff_getElem?.mp m
    by_cases hji : j = i
    · subst hji
      rw [List.getElem?_set_self (List.getElem?_eq_some_iff.mp e).1] at hj; cases hj
    · rw [List.getElem?_set_ne (Ne.symm hji)] at hj
      exact hji (x.inj _ _ _ hj e)
  · exact (x.hid a m).2 (List.mem_iff_getElem?.mpr ⟨i, e⟩)

/-! ### behind a call: what is new and not wanted is forgotten -/
theorem mem_take {a : Addr} {n : Nat} (m : (r.cut n).has a) : r.has a := m.elim (fun m => .inl (List.mem_of_mem_take m)) .inr
mutual
theorem Rep.cut {n : Nat} : ∀ {d : D} {v : V}, Rep K H r v d → d.lo n → Rep K H (r.cut n) v d
  | _, _, .non, _ => .non
  | _, _, .bl b, _ => .bl b
  | _, _, .int i, _ => .int i
  | _, _, .str z h, _ => .str z h
  | _, _, .tup h k, b => .tup (h.imp (fun ⟨o, q, d, n⟩ => ⟨o, q, d, fun m => n (mem_take m)⟩) id) (RepA.cut k (by unfold D.lo at b; exact b))
  | _, _, .lst h k, b => .lst ⟨h.1, fun m => h.2 (mem_take m)⟩ (RepA.cut k (by unfold D.lo at b; exact b))
  | _, _, .scr h k, b => .scr (h.imp (fun q => ⟨q.1, fun m => q.2 (mem_take m)⟩) id) (RepA.cut k (by unfold D.lo at b; exact b))
  | _, _, .ref h, b => .ref (by show (r.l.take n)[_]? = _; rw [List.getElem?_take_of_lt (by unfold D.lo at b; exact b)]; exact h)
  | _, _, .dead h, b => .dead (by show (r.l.take n)[_]? = _; rw [List.getElem?_take_of_lt (by unfold D.lo at b; exact b)]; exact h)
  | _, _, .exc h z l k, b => .exc (h.imp (fun ⟨d, e, q, n⟩ => ⟨d, e, q, fun m => n (mem_take m)⟩) id) z l (RepA.cut k (by unfold D.lo at b; exact b))
theorem RepA.cut {n : Nat} : ∀ {ds : List D} {vs : List V}, RepA K H r vs ds → D.loA n ds → RepA K H (r.cut n) vs ds
  | _, _, .nil, _ => .nil
  | _, _, .cons h k, b => .cons (Rep.cut h (by unfold D.loA at b; exact b.1)) (RepA.cut k (by unfold D.loA at b; exact b.2))
end
mutual
theorem Rep.lo : ∀ {d : D} {v : V}, Rep K H r v d → d.lo r.l.length
  | _, _, .non => by unfold D.lo; trivial
  | _, _, .bl b => by unfold D.lo; trivial
  | _, _, .int i => by unfold D.lo; trivial
  | _, _, .str z h => by unfold D.lo; trivial
  | _, _, .tup h k => by unfold D.lo; exact RepA.lo k
  | _, _, .lst h k => by unfold D.lo; exact RepA.lo k
  | _, _, .scr h k => by unfold D.lo; exact RepA.lo k
  | _, _, .ref h => by unfold D.lo; exact (List.getElem?_eq_some_iff.mp h).1
  | _, _, .dead h => by unfold D.lo; exact (List.getElem?_eq_some_iff.mp h).1
  | _, _, .exc h z l k => by unfold D.lo; exact RepA.lo k
theorem RepA.lo : ∀ {ds : List D} {vs : List V}, RepA K H r vs ds → D.loA r.l.length ds
  | _, _, .nil => by unfold D.loA; trivial
  | _, _, .cons h k => by unfold D.loA; exact ⟨Rep.lo h, RepA.lo k⟩
end
theorem RepK.cut {n : Nat} : ∀ {es : List (D × D)} {kvs : List (Key × V)}, RepK K H r kvs es → D.loA n (es.map (·.2)) → RepK K H (r.cut n) kvs es
  | _, _, .nil, _ => .nil
  | _, _, .cons h k l, b => by
    rw [List.map_cons] at b; unfold D.loA at b
    exact .cons h (k.cut b.1) (RepK.cut l b.2)
theorem RepK.lo : ∀ {es : List (D × D)} {kvs : List (Key × V)}, RepK K H r kvs es → D.loA r.l.length (es.map (·.1)) ∧ D.loA r.l.length (es.map (·.2))
  | _, _, .nil => by simp [D.loA]
  | _, _, .cons (k := k) h q l => by
    have ih := RepK.lo l
    rw [List.map_cons, List.map_cons]; unfold D.loA
    refine ⟨⟨?_, ih.1⟩, q.lo, ih.2⟩
    cases k <;> (unfold KeyD D.lo; trivial)
theorem OR.cut {n : Nat} {a : Addr} {o : O} (x : OR K H r a o) (b : o.lo n) : OR K H (r.cut n) a o := by
  cases o with
  | lst ds => obtain ⟨vs, h1, h2⟩ := x; exact ⟨vs, h1, h2.cut b⟩
  | dict es => obtain ⟨kvs, h1, h2⟩ := x; exact ⟨kvs, h1, h2.cut b.2⟩
  | dead => exact x.elim
theorem OR.lo {a : Addr} {o : O} (x : OR K H r a o) : o.lo r.l.length := by
  cases o with
  | lst ds => obtain ⟨vs, h1, h2⟩ := x; exact h2.lo
  | dict es => obtain ⟨kvs, h1, h2⟩ := x; exact h2.lo
  | dead => exact x.elim
theorem Ext.cut {n : Nat} (x : Ext r H r' H') (hn : r.l.length ≤ n) : Ext r H (r'.cut n) H' := by
  refine ⟨x.keep, fun a m => x.new a (mem_take m), x.hid, x.hkeep, fun i o e => ?_⟩
  show (r'.l.take n)[i]? = some o ∨ (r'.l.take n)[i]? = some none
  have hi := (List.getElem?_eq_some_iff.mp e).1
  rw [List.getElem?_take_of_lt (by omega)]
  exact x.pre i o e
/-- what a call may leave of the objects ahead of it -/
def Clean (h h' : Hd) : Prop := ∀ j, j < h.length → h'[j]? = h[j]? ∨ ∃ o, h'[j]? = some o ∧ o.lo h.length
theorem R.cut (x : R K r h H) (y : R K r' h' H') (c : Clean h h') : R K (r'.cut h.length) (h'.take h.length) H' := by
  have get : ∀ {i : Nat} {o : Option Addr}, (r'.l.take h.length)[i]? = some o → i < h.length ∧ r'.l[i]? = some o := fun {i o} e => by
    have hi : i < h.length := by
      have := (List.getElem?_eq_some_iff.mp e).1
      rw [List.length_take] at this
      omega
    rw [List.getElem?_take_of_lt hi] at e
    exact ⟨hi, e⟩
  refine ⟨by rw [List.length_take, List.length_take, y.len], fun i j a e1 e2 => y.inj i j a (get e1).2 (get e2).2, fun i a e => ?_, fun i e => ?_, fun a m => ⟨(y.hid a m).1, fun z => (y.hid a m).2 (List.mem_of_mem_take z)⟩⟩
  · obtain ⟨hi, e⟩ := get e
    obtain ⟨o, h1, h2⟩ := y.get i a e
    refine ⟨o, by rw [List.getElem?_take_of_lt hi]; exact h1, h2.cut ?_⟩
    rcases c i hi with q | ⟨o', q, b⟩
    · rw [h1] at q
      have hr : i < r.l.length := by rw [x.len]; exact hi
      cases e0 : r.l[i]? with
      | none => rw [List.getElem?_eq_none_iff] at e0; omega
      | some oa =>
        cases oa with
        | none =>
          have q2 := x.dead i e0
          rw [← q] at q2; cases q2
          exact h2.elim
        | some a0 =>
          obtain ⟨o0, h3, h4⟩ := x.get i a0 e0
          rw [← q] at h3; cases h3
          rw [← x.len]
          exact h4.lo
    · rw [h1] at q; cases q; exact b
  · obtain ⟨hi, e⟩ := get e
    rw [List.getElem?_take_of_lt hi]
    exact y.dead i e
end

/-! ### hiding an object, and back -/
section
variable {K : PySem.W.Frag} {H H' : Hp} {r r' : Rho}
structure Shift (r : Rho) (H : Hp) (r' : Rho) (H' : Hp) : Prop where
  pre : ∀ (i : Nat) o, r.l[i]? = some o → r'.l[i]? = some o
  keep : ∀ a o, H a = some o → ¬ r.has a → H' a = some o
  back : ∀ a, H a ≠ none → r'.has a → r.has a
theorem Shift.ne (x : Shift r H r' H') {a : Addr} {o : HO} (h : H a = some o) (n : ¬ r.has a) : ¬ r'.has a := fun m => n (x.back a (by rw [h]; exact fun z => by cases z) m)
theorem Shift.fxd {dd : Option Addr} {fs : List (Str × V)} (x : Shift r H r' H') (h : (∃ d, dd = some d ∧ H d = some (.xd fs) ∧ ¬ r.has d) ∨ dd = none) : (∃ d, dd = some d ∧ H' d = some (.xd fs) ∧ ¬ r'.has d) ∨ dd = none :=
  h.imp (fun ⟨d, e, q, n⟩ => ⟨d, e, x.keep _ _ q n, x.ne q n⟩) id
theorem Shift.fzl {a : Addr} {vs : List V} (x : Shift r H r' H') (h : FzL H r a vs) : FzL H' r' a vs := ⟨x.keep _ _ h.1 h.2, x.ne h.1 h.2⟩
theorem Shift.fzs {a : Addr} {vs : List V} (x : Shift r H r' H') (h : FzS K H r a vs) : FzS K H' r' a vs := by
  rcases h with ⟨h, n⟩ | h
  · rcases h with h | ⟨o, h⟩
    · exact .inl ⟨.inl (x.keep _ _ h n), x.ne h n⟩
    · exact .inl ⟨.inr ⟨o, x.keep _ _ h n⟩, x.ne h n⟩
  · exact .inr h
theorem Shift.fzt {a : Addr} {vs : List V} (x : Shift r H r' H') (h : FzT K H r a vs) : FzT K H' r' a vs := by
  rcases h with ⟨o, h, d, n⟩ | h
  · exact .inl ⟨o, x.keep _ _ h n, d, x.ne h n⟩
  · exact .inr h
mutual
theorem Rep.shift (x : Shift r H r' H') : ∀ {d : D} {v : V}, Rep K H r v d → Rep K H' r' v d
  | _, _, .non => .non
  | _, _, .bl b => .bl b
  | _, _, .int i => .int i
  | _, _, .str z h => .str z h
  | _, _, .tup h k => .tup (x.fzt h) (RepA.shift x k)
  | _, _, .lst h k => .lst (x.fzl h) (RepA.shift x k)
  | _, _, .scr h k => .scr (x.fzs h) (RepA.shift x k)
  | _, _, .ref h => .ref (x.pre _ _ h)
  | _, _, .dead h => .dead (x.pre _ _ h)
  | _, _, .exc h z l k => .exc (x.fxd h) z l (RepA.shift x k)
theorem RepA.shift (x : Shift r H r' H') : ∀ {ds : List D} {vs : List V}, RepA K H r vs ds → RepA K H' r' vs ds
  | _, _, .nil => .nil
  | _, _, .cons h k => .cons (Rep.shift x h) (RepA.shift x k)
end
theorem RepK.shift (x : Shift r H r' H') : ∀ {es : List (D × D)} {kvs : List (Key × V)}, RepK K H r kvs es → RepK K H' r' kvs es
  | _, _, .nil => .nil
  | _, _, .cons h k l => .cons h (k.shift x) (RepK.shift x l)
theorem OR.shift {a : Addr} {o : O} (x : Shift r H r' H') (e : H' a = H a) (h : OR K H r a o) : OR K H' r' a o := by
  cases o with
  | lst ds => obtain ⟨vs, h1, h2⟩ := h; exact ⟨vs, e.trans h1, h2.shift x⟩
  | dict es => obtain ⟨kvs, h1, h2⟩ := h; exact ⟨kvs, e.trans h1, h2.shift x⟩
  | dead => exact h.elim
theorem Shift.hide {p : Addr} {o : HO} (n : H p = none) : Shift r H (r.hide p) (upd H p o) := by
  refine ⟨fun _ _ h => h, fun a u h _ => by rw [upd_ne (ne_of_none h n)]; exact h, fun a h m => ?_⟩
  rcases m with m | m
  · exact .inl m
  · rcases List.mem_cons.mp m with rfl | m
    · exact (h n).elim
    · exact .inr m
theorem R.hide {h : Hd} (x : R K r h H) {p : Addr} {o : HO} (n : H p = none) : R K (r.hide p) h (upd H p o) := by
  have y := x.laid (o := o) n
  refine ⟨x.len, x.inj, fun i a e => ?_, x.dead, fun a m => ?_⟩
  · obtain ⟨u, h1, h2⟩ := x.get i a e
    refine ⟨u, h1, h2.shift (Shift.hide n) ?_⟩
    obtain ⟨z, e, _⟩ := h2.some
    rw [upd_ne (ne_of_none e n)]
  · rcases List.mem_cons.mp m with rfl | m
    · exact ⟨(by rw [upd_same]; exact fun z => nomatch z), fun z => x.fresh n (.inl z)⟩
    · exact y.hid a m
theorem Shift.bare {hid : List Addr} (h : ∀ a ∈ hid, a ∈ r.hid) : Shift r H ⟨r.l, hid⟩ H := ⟨fun _ _ h => h, fun _ _ h _ => h, fun a _ m => m.elim .inl fun m => .inr (h a m)⟩
theorem R.bare {h : Hd} {hid : List Addr} (x : R K r h H) (m : ∀ a ∈ hid, a ∈ r.hid) : R K ⟨r.l, hid⟩ h H :=
  ⟨x.len, x.inj, fun i a e => let ⟨u, h1, h2⟩ := x.get i a e; ⟨u, h1, h2.shift (Shift.bare m) rfl⟩, x.dead, fun a z => x.hid a (m a z)⟩
/-- on with a hidden object p, which is then written -/
theorem Ext.through {r1 r2 : Rho} {H1 H2 : Hp} {p : Addr} {u : HO} (n : H p = none) (x : Ext r H ⟨r1.l, r.hid⟩ H1) (hr : r1.hid = p :: r.hid) (y : Ext r1 H1 r2 H2) : Ext r H ⟨r2.l, r.hid⟩ (upd H2 p u) := by
  have ne : ∀ {a o}, H a = some o → a ≠ p := fun {a o} h e => by subst e; rw [n] at h; cases h
  have has1 : ∀ {a}, r1.has a → r.has a ∨ H a = none := fun {a} m => by
    rcases m with m | m
    · exact x.new a (.inl m)
    · rw [hr] at m
      rcases List.mem_cons.mp m with rfl | m
      · exact .inr n
      · exact .inl (.inr m)
  refine ⟨fun a o h m => ?_, fun a m => ?_, rfl, fun a o m h => ?_, fun i o e => ?_⟩
  · rw [upd_ne (ne h)]
    refine y.keep a o (x.keep a o h m) fun z => ?_
    rcases has1 z with z | z
    · exact m z
    · rw [h] at z; cases z
  · rcases m with m | m
    · rcases y.new a (.inl m) with z | z
      · exact has1 z
      · cases e : H a with
        | none => exact .inr rfl
        | some o =>
          by_cases q : r.has a
          · exact .inl q
          · rw [x.keep a o e q] at z; cases z
    · exact .inl (.inr m)
  · rw [upd_ne (ne h)]
    exact y.hkeep a o (by rw [hr]; exact List.mem_cons_of_mem _ m) (x.hkeep a o m h)
  · rcases x.pre i o e with z | z
    · exact y.pre i o z
    · rcases y.pre i none z with w | w <;> exact .inr w
/-- a hidden object comes out as an open one -/
theorem Ext.out {p : Addr} (n : H p = none) (x : Ext r H r' H') : Ext r H (r'.add p) H' := by
  refine ⟨x.keep, fun a m => ?_, x.hid, x.hkeep, fun i o e => ?_⟩
  · rcases add_has m with m | rfl
    · exact x.new a m
    · exact .inr n
  · have h : ∀ {o}, r'.l[i]? = some o → (r'.add p).l[i]? = some o := fun {o} e => by
      show (r'.l ++ [some p])[i]? = some o
      rw [List.getElem?_append_left (List.getElem?_eq_some_iff.mp e).1]
      exact e
    exact (x.pre i o e).imp h h
theorem Shift.out {p : Addr} {hid : List Addr} (hp : p ∈ r.hid) (h : ∀ a ∈ hid, a ∈ r.hid) : Shift r H (Rho.add ⟨r.l, hid⟩ p) H := by
  refine ⟨fun i o e => ?_, fun _ _ h _ => h, fun a _ m => ?_⟩
  · show (r.l ++ [some p])[i]? = some o
    rw [List.getElem?_append_left (List.getElem?_eq_some_iff.mp e).1]
    exact e
  · rcases add_has m with m | rfl
    · exact m.elim .inl fun m => .inr (h a m)
    · exact .inr hp
/-- a hidden object is written -/
theorem Shift.wrote {p : Addr} {u : HO} (hp : p ∈ r.hid) : Shift r H r (upd H p u) :=
  ⟨fun _ _ h => h, fun a o h n => by rw [upd_ne (fun e => n (by rw [e]; exact .inr hp))]; exact h, fun _ _ m => m⟩
theorem R.side {h : Hd} {p : Addr} {u : HO} (x : R K r h H) (hp : p ∈ r.hid) : R K r h (upd H p u) := by
  refine ⟨x.len, x.inj, fun i a e => ?_, x.dead, fun a m => ⟨upd_some (x.hid a m).1, (x.hid a m).2⟩⟩
  obtain ⟨o, h1, h2⟩ := x.get i a e
  refine ⟨o, h1, h2.shift (Shift.wrote hp) ?_⟩
  rw [upd_ne]
  rintro rfl
  exact (x.hid _ hp).2 (List.mem_iff_getElem?.mpr ⟨i, e⟩)
end

/-! ### the slots -/
abbrev Tau := List (Option D)
structure Slots (K : PySem.W.Frag) (H : Hp) (r : Rho) (σ : L2.St) (t : Tau) : Prop where
  len : σ.length = t.length
  get : ∀ (i : Nat) d, t[i]? = some (some d) → ∃ v, σ[i]? = some (some v) ∧ Rep K H r v d
section
variable {K : PySem.W.Frag} {H H' : Hp} {r r' : Rho} {σ : L2.St} {t : Tau}
theorem Slots.mono (s : Slots K H r σ t) (x : Ext r H r' H') : Slots K H' r' σ t :=
  ⟨s.len, fun i d e => let ⟨v, h1, h2⟩ := s.get i d e; ⟨v, h1, h2.mono x⟩⟩
theorem Slots.set (s : Slots K H r σ t) {v : V} {d : D} (i : Nat) (q : Rep K H r v d) : Slots K H r (σ.set i (some v)) (t.set i (some d)) := by
  refine ⟨by simp [s.len], fun j d' e => ?_⟩
  by_cases hj : j = i
  · subst hj
    have hl : j < t.length := by have := (List.getElem?_eq_some_iff.mp e).1; simpa using this
    rw [List.getElem?_set_self hl] at e
    cases e
    exact ⟨v, by rw [List.getElem?_set_self (by rw [s.len]; exact hl)], q⟩
  · rw [List.getElem?_set_ne (Ne.symm hj)] at e ⊢
    exact s.get j d' e
theorem Slots.shift (s : Slots K H r σ t) (x : Shift r H r' H') : Slots K H' r' σ t :=
  ⟨s.len, fun i d e => let ⟨v, h1, h2⟩ := s.get i d e; ⟨v, h1, h2.shift x⟩⟩
theorem Slots.none (s : Slots K H r σ t) (i : Nat) : Slots K H r (σ.set i none) (t.set i none) := by
  refine ⟨by simp [s.len], fun j d' e => ?_⟩
  by_cases hj : j = i
  · subst hj
    have hl : j < t.length := by have := (List.getElem?_eq_some_iff.mp e).1; simpa using this
    rw [List.getElem?_set_self hl] at e
    cases e
  · rw [List.getElem?_set_ne (Ne.symm hj)] at e ⊢
    exact s.get j d' e
end
end Ev

/-! Ev2: what an evaluation tells (readings of evaluations), operators on data. -/
namespace Ev
open PySem L2

abbrev Calls := Nat → List D → Hd → Res D
/-- an error class: where it stands, its fields -/
structure XC where
  addr : Addr
  fields : List Str
def ExR (K : PySem.W.Frag) (CL : List XC) (H : Hp) (r : Rho) (c : Nat) (fs : List D) (cls : Value) (dd : Option Addr) : Prop :=
  ∃ x vs, CL[c]? = some x ∧ cls = .ref x.addr ∧ RepA K H r vs fs ∧ fs.length = x.fields.length ∧
    ((∃ d, dd = some d ∧ H d = some (.xd (x.fields.zip vs)) ∧ ¬ r.has d) ∨ (dd = none ∧ fs = []))

/-- the relation between what the layer holds and what the evaluation gives -/
abbrev Rl (β α : Type) := Hp → Rho → β → α → Prop
section
variable (K : PySem.W.Frag) (CL : List XC) (W : WX)
abbrev relD : Rl V D := fun H r v d => Rep K H r v d
abbrev relA : Rl (List V) (List D) := fun H r v d => RepA K H r v d
abbrev relB : Rl Bool Bool := fun _ _ v d => v = d
abbrev relU : Rl Unit Unit := fun _ _ _ _ => True
def okK {α β : Type} (rel : Rl β α) (r : Rho) (H : Hp) (Q : β → Hp → Prop) : Res α → Prop
  | .ok d h' => ∀ v r' H', Ext r H r' H' → R K r' h' H' → rel H' r' v d → Q v H'
  | _ => False
def rdK {α β : Type} (rel : Rl β α) (r : Rho) (H : Hp) (σ : L2.St) (Q : β → Hp → Prop) : Res α → Prop
  | .ok d h' => ∀ v r' H', Ext r H r' H' → R K r' h' H' → rel H' r' v d → Q v H'
  | .exn c fs h' => ∀ cls dd r' H', Ext r H r' H' → R K r' h' H' → ExR K CL H' r' c fs cls dd → W cls dd σ H'
  | .stuck => False
def rd {α β : Type} (rel : Rl β α) (c : Calls) (m : Calls → Tau → Hd → Res α) : L2.St → Hp → (β → Hp → Prop) → Prop := fun σ H Q =>
  ∃ r t h, R K r h H ∧ Slots K H r σ t ∧ rdK K CL W rel r H σ Q (m c t h)
end
section
variable {K : PySem.W.Frag} {CL : List XC} {W : WX} {c : Calls}
theorem rdK.ext {α β : Type} {rel : Rl β α} {r r1 : Rho} {H H1 : Hp} {σ : L2.St} {Q : β → Hp → Prop} {x : Res α} (e : Ext r H r1 H1) (q : rdK K CL W rel r H σ Q x) : rdK K CL W rel r1 H1 σ Q x := by
  cases x with
  | ok d h' => exact fun v r' H' a b => q v r' H' (e.trans a) b
  | exn c fs h' => exact fun cls dd r' H' a b => q cls dd r' H' (e.trans a) b
  | stuck => exact q
theorem okK.ext {α β : Type} {rel : Rl β α} {r r1 : Rho} {H H1 : Hp} {Q : β → Hp → Prop} {x : Res α} (e : Ext r H r1 H1) (q : okK K rel r H Q x) : okK K rel r1 H1 Q x := by
  cases x with
  | ok d h' => exact fun v r' H' a b => q v r' H' (e.trans a) b
  | exn c fs h' => exact q
  | stuck => exact q
theorem rd_bind {α β γ δ : Type} {rel1 : Rl γ δ} {rel : Rl β α} {r : Rho} {H : Hp} {h : Hd} {t : Tau} {σ : L2.St} {Q : β → Hp → Prop} {m : Calls → Tau → Hd → Res δ} {k : δ → Hd → Res α}
    (x : R K r h H) (s : Slots K H r σ t) (q : rdK K CL W rel r H σ Q ((m c t h).bind k)) :
    rd K CL W rel1 c m σ H fun v H1 => ∃ r1 h1 d, Ext r H r1 H1 ∧ R K r1 h1 H1 ∧ Slots K H1 r1 σ t ∧ rel1 H1 r1 v d ∧ rdK K CL W rel r1 H1 σ Q (k d h1) := by
  refine ⟨r, t, h, x, s, ?_⟩
  cases e : m c t h with
  | ok d h' =>
    rw [e] at q
    exact fun v r' H' e1 x' rv => ⟨r', h', d, e1, x', s.mono e1, rv, q.ext e1⟩
  | exn c fs h' =>
    rw [e] at q
    exact q
  | stuck =>
    rw [e] at q
    exact q
theorem rd.mono {α β : Type} {rel : Rl β α} {H : Hp} {σ : L2.St} {Q Q' : β → Hp → Prop} {m : Calls → Tau → Hd → Res α} (q : rd K CL W rel c m σ H Q) (i : ∀ v H', Q v H' → Q' v H') : rd K CL W rel c m σ H Q' := by
  obtain ⟨r, t, h, x, s, q⟩ := q
  refine ⟨r, t, h, x, s, ?_⟩
  cases e : m c t h with
  | ok d h' => rw [e] at q; exact fun v r' H' a b k => i _ _ (q v r' H' a b k)
  | exn c fs h' => rw [e] at q; exact q
  | stuck => rw [e] at q; exact q
/-- a value that is told at once -/
theorem rdK.now {α β : Type} {rel : Rl β α} {r : Rho} {H : Hp} {h : Hd} {σ : L2.St} {Q : β → Hp → Prop} {d : α} {v : β} (q : rdK K CL W rel r H σ Q (.ok d h)) (x : R K r h H) (rv : rel H r v d) : Q v H := q v r H (Ext.refl r H) x rv
theorem okK.now {α β : Type} {rel : Rl β α} {r : Rho} {H : Hp} {h : Hd} {Q : β → Hp → Prop} {d : α} {v : β} (q : okK K rel r H Q (.ok d h)) (x : R K r h H) (rv : rel H r v d) : Q v H := q v r H (Ext.refl r H) x rv
theorem rdK.okK {α β : Type} {rel : Rl β α} {r : Rho} {H : Hp} {σ : L2.St} {Q : β → Hp → Prop} {x : Res α} (q : rdK K CL W rel r H σ Q x) (h : ∀ c fs h, x ≠ .exn c fs h) : okK K rel r H Q x := by
  cases x with
  | ok d h' => exact q
  | exn c fs h' => exact (h _ _ _ rfl).elim
  | stuck => exact q
end

/-! ### plain data -/
mutual
def D.plain : D → Bool
  | .ref _ => false
  | .exc _ _ _ _ => false
  | .tup xs => D.plainA xs
  | .lst xs => D.plainA xs
  | .scr xs => D.plainA xs
  | _ => true
def D.plainA : List D → Bool
  | [] => true
  | x :: xs => D.plain x && D.plainA xs
def D.dep : D → Nat
  | .tup xs => D.depA xs + 1
  | .lst xs => D.depA xs + 1
  | .scr xs => D.depA xs + 1
  | _ => 0
def D.depA : List D → Nat
  | [] => 0
  | x :: xs => max (D.dep x) (D.depA xs)
def D.toP : D → PyData
  | .non => .none
  | .bl b => .bool b
  | .int i => .int i
  | .str s => .str ⟨s.toArray⟩
  | .tup xs => .tuple (D.toPA xs)
  | .lst xs => .list (D.toPA xs)
  | .scr xs => .list (D.toPA xs)
  | .ref _ => .none
  | .exc _ _ _ _ => .none
def D.toPA : List D → List PyData
  | [] => []
  | x :: xs => D.toP x :: D.toPA xs
/-- == of plain data -/
def D.eqv : D → D → Bool
  | .non, .non => true
  | .bl a, .bl b => a == b
  | .bl a, .int j => (if a then 1 else 0) == j
  | .int i, .bl b => i == (if b then 1 else 0)
  | .int i, .int j => i == j
  | .str x, .str y => x == y
  | .tup xs, .tup ys => D.eqvA xs ys
  | .lst xs, .lst ys => D.eqvA xs ys
  | .lst xs, .scr ys => D.eqvA xs ys
  | .scr xs, .lst ys => D.eqvA xs ys
  | .scr xs, .scr ys => D.eqvA xs ys
  | _, _ => false
def D.eqvA : List D → List D → Bool
  | [], [] => true
  | x :: xs, y :: ys => D.eqv x y && D.eqvA xs ys
  | _, _ => false
end
mutual
theorem toP_dep : ∀ d : D, d.toP.depth = d.dep
  | .non => by simp [D.toP, D.dep, PyData.depth]
  | .bl b => by simp [D.toP, D.dep, PyData.depth]
  | .int i => by simp [D.toP, D.dep, PyData.depth]
  | .str s => by simp [D.toP, D.dep, PyData.depth]
  | .tup xs => by simp [D.toP, D.dep, PyData.depth, toPA_dep xs]
  | .lst xs => by simp [D.toP, D.dep, PyData.depth, toPA_dep xs]
  | .scr xs => by simp [D.toP, D.dep, PyData.depth, toPA_dep xs]
  | .ref _ => by simp [D.toP, D.dep, PyData.depth]
  | .exc _ _ _ _ => by simp [D.toP, D.dep, PyData.depth]
theorem toPA_dep : ∀ ds : List D, PyData.depthAll (D.toPA ds) = D.depA ds
  | [] => by simp [D.toPA, D.depA, PyData.depthAll]
  | x :: xs => by simp [D.toPA, D.depA, PyData.depthAll, toP_dep x, toPA_dep xs]
end
mutual
theorem toP_eqv : ∀ d e : D, d.plain = true → e.plain = true → PyData.eqv d.toP e.toP = D.eqv d e := by
  intro d e hd he
  cases d with
  | tup xs => cases e with
    | tup ys => simp only [D.toP, D.eqv, PyData.eqv]; exact toPA_eqv xs ys (by simpa [D.plain] using hd) (by simpa [D.plain] using he)
    | ref i => simp [D.plain] at he
    | exc i j k fs => simp [D.plain] at he
    | _ => simp [D.toP, D.eqv, PyData.eqv]
  | lst xs => cases e with
    | lst ys => simp only [D.toP, D.eqv, PyData.eqv]; exact toPA_eqv xs ys (by simpa [D.plain] using hd) (by simpa [D.plain] using he)
    | scr ys => simp only [D.toP, D.eqv, PyData.eqv]; exact toPA_eqv xs ys (by simpa [D.plain] using hd) (by simpa [D.plain] using he)
    | ref i => simp [D.plain] at he
    | exc i j k fs => simp [D.plain] at he
    | _ => simp [D.toP, D.eqv, PyData.eqv]
  | scr xs => cases e with
    | lst ys => simp only [D.toP, D.eqv, PyData.eqv]; exact toPA_eqv xs ys (by simpa [D.plain] using hd) (by simpa [D.plain] using he)
    | scr ys => simp only [D.toP, D.eqv, PyData.eqv]; exact toPA_eqv xs ys (by simpa [D.plain] using hd) (by simpa [D.plain] using he)
    | ref i => simp [D.plain] at he
    | exc i j k fs => simp [D.plain] at he
    | _ => simp [D.toP, D.eqv, PyData.eqv]
  | ref i => simp [D.plain] at hd
  | exc i j k fs => simp [D.plain] at hd
  | str x => cases e with
    | str y =>
      simp only [D.toP, D.eqv, PyData.eqv]
      by_cases q : x = y
      · subst q; simp
      · rw [beq_eq_false_iff_ne.mpr q]
        exact beq_eq_false_iff_ne.mpr fun z => q (by injection z with z; simpa using congrArg Array.toList z)
    | ref i => simp [D.plain] at he
    | exc i j k fs => simp [D.plain] at he
    | _ => simp [D.toP, D.eqv, PyData.eqv]
  | non => cases e with
    | ref i => simp [D.plain] at he
    | exc i j k fs => simp [D.plain] at he
    | _ => simp [D.toP, D.eqv, PyData.eqv]
  | bl b => cases e with
    | ref i => simp [D.plain] at he
    | exc i j k fs => simp [D.plain] at he
    | _ => simp [D.toP, D.eqv, PyData.eqv]
  | int b => cases e with
    | ref i => simp [D.plain] at he
    | exc i j k fs => simp [D.plain] at he
    | _ => simp [D.toP, D.eqv, PyData.eqv]
theorem toPA_eqv : ∀ ds es : List D, D.plainA ds = true → D.plainA es = true → PyData.eqvAll (D.toPA ds) (D.toPA es) = D.eqvA ds es
  | [], [], _, _ => by simp [D.toPA, D.eqvA, PyData.eqvAll]
  | [], _ :: _, _, _ => by simp [D.toPA, D.eqvA, PyData.eqvAll]
  | _ :: _, [], _, _ => by simp [D.toPA, D.eqvA, PyData.eqvAll]
  | x :: xs, y :: ys, h, k => by
    simp only [D.plainA, Bool.and_eq_true] at h k
    simp only [D.toPA, D.eqvA, PyData.eqvAll, toP_eqv x y h.1 k.1, toPA_eqv xs ys h.2 k.2]
end
theorem toPA_map : ∀ ds : List D, D.toPA ds = ds.map D.toP
  | [] => rfl
  | x :: xs => by rw [D.toPA, toPA_map xs]; rfl
theorem plainA_iff : ∀ {ds : List D}, D.plainA ds = true ↔ ∀ d ∈ ds, d.plain = true
  | [] => by simp [D.plainA]
  | x :: xs => by simp [D.plainA, plainA_iff (ds := xs)]
theorem depA_get : ∀ (ds : List D) {j : Nat} (hj : j < ds.length), ds[j].dep ≤ D.depA ds
  | x :: xs, 0, _ => by simp only [D.depA]; exact Nat.le_max_left _ _
  | x :: xs, j + 1, hj => by
    have := depA_get xs (j := j) (by simpa using hj)
    simp only [D.depA]
    exact Nat.le_trans this (Nat.le_max_right _ _)
section
variable {K : PySem.W.Frag} {H : Hp} {r : Rho}
mutual
theorem Rep.dp : ∀ {d : D} {v : V}, Rep K H r v d → d.plain = true → Dp K H v d.toP
  | _, _, .non, _ => by unfold D.toP; exact .non
  | _, _, .bl b, _ => by unfold D.toP; exact .bl b
  | _, _, .int i, _ => by unfold D.toP; exact .int i
  | _, _, .str z h, _ => by unfold D.toP; exact .str z
  | _, _, .tup h k, p => by unfold D.toP; exact .tup h.seq (RepA.dp k (by unfold D.plain at p; exact p))
  | _, _, .lst h k, p => by unfold D.toP; exact .lst h.seq (RepA.dp k (by unfold D.plain at p; exact p))
  | _, _, .scr h k, p => by unfold D.toP; exact .lst h.seq (RepA.dp k (by unfold D.plain at p; exact p))
  | _, _, .ref h, p => by simp [D.plain] at p
  | _, _, .dead h, p => by simp [D.plain] at p
  | _, _, .exc _ _ _ _, p => by simp [D.plain] at p
theorem RepA.dp : ∀ {ds : List D} {vs : List V}, RepA K H r vs ds → D.plainA ds = true → DpAll K H vs (D.toPA ds)
  | _, _, .nil, _ => by unfold D.toPA; exact .nil
  | _, _, .cons h k, p => by
    simp only [D.plainA, Bool.and_eq_true] at p
    unfold D.toPA; exact .cons (Rep.dp h p.1) (RepA.dp k p.2)
end
mutual
theorem Rep.lay : ∀ {d : D} {v : V}, Rep K H r v d → d.toP.canLay0 = true
  | _, _, .non => by simp [D.toP, PyData.canLay0]
  | _, _, .bl b => by simp [D.toP, PyData.canLay0]
  | _, _, .int i => by simp [D.toP, PyData.canLay0]
  | _, _, .str z h => by simpa [D.toP, PyData.canLay0] using h.1
  | _, _, .tup h k => by simpa [D.toP, PyData.canLay0] using RepA.lay k
  | _, _, .lst h k => by simpa [D.toP, PyData.canLay0] using RepA.lay k
  | _, _, .scr h k => by simpa [D.toP, PyData.canLay0] using RepA.lay k
  | _, _, .ref h => by simp [D.toP, PyData.canLay0]
  | _, _, .dead h => by simp [D.toP, PyData.canLay0]
  | _, _, .exc _ _ _ _ => by simp [D.toP, PyData.canLay0]
theorem RepA.lay : ∀ {ds : List D} {vs : List V}, RepA K H r vs ds → PyData.canLayAll0 (D.toPA ds) = true
  | _, _, .nil => by simp [D.toPA, PyData.canLayAll0]
  | _, _, .cons h k => by simp [D.toPA, PyData.canLayAll0, Rep.lay h, RepA.lay k]
end
end

/-! ### operators -/
def D.see (h : Hd) : D → D
  | .ref i => match h[i]? with
    | some (.lst xs) => .lst xs
    | _ => .ref i
  | d => d
/-- a list's items -/
def D.items? (h : Hd) : D → Option (List D)
  | .lst xs => some xs
  | .ref i => match h[i]? with
    | some (.lst xs) => some xs
    | _ => none
  | _ => none
/-- a new list, open or closed -/
def fresh (m : Bool) (xs : List D) (h : Hd) : Res D :=
  if xs.length ≤ sizeLine then (if m then .ok (.ref h.length) (h ++ [.lst xs]) else .ok (.lst xs) h) else .stuck
def freshT (xs : List D) (h : Hd) : Res D := if xs.length ≤ sizeLine then .ok (.tup xs) h else .stuck
def freshS (xs : List Nat) (h : Hd) : Res D := if xs.length ≤ 1000000 then .ok (.str xs) h else .stuck
def near (d e : D) : Bool := decide (d.dep ≤ 500) || decide (e.dep ≤ 500)
def cmpOk (d e : D) : Bool := d.plain && e.plain && near d e
def dAdd (m : Bool) (x y : D) (h : Hd) : Res D :=
  match x, y with
  | .int i, .int j => .ok (.int (i + j)) h
  | .str a, .str b => freshS (a ++ b) h
  | .tup xs, .tup ys => freshT (xs ++ ys) h
  | x, y => match x.items? h, y.items? h with
    | some xs, some ys => fresh m (xs ++ ys) h
    | _, _ => .stuck
def dSub (x y : D) (h : Hd) : Res D :=
  match x, y with
  | .int i, .int j => .ok (.int (i - j)) h
  | _, _ => .stuck
def dMul (m : Bool) (x y : D) (h : Hd) : Res D :=
  match x, y with
  | .int i, .int j => if (-(2 ^ 64) < i ∧ i < 2 ^ 64) ∨ (-(2 ^ 64) < j ∧ j < 2 ^ 64) then .ok (.int (i * j)) h else .stuck
  | x, .int k => match x.items? h with
    | some xs => if k < 2 ^ 62 ∧ -(2 ^ 62) < k ∧ xs.length * k.toNat ≤ sizeLine then fresh m (List.replicate k.toNat xs).flatten h else .stuck
    | _ => .stuck
  | _, _ => .stuck
def dDiv (x y : D) (h : Hd) : Res D :=
  match x, y with
  | .int i, .int j => if 0 < j ∧ j < 2 ^ 64 then .ok (.int (i / j)) h else .stuck
  | _, _ => .stuck
def dMod (x y : D) (h : Hd) : Res D :=
  match x, y with
  | .int i, .int j => if 0 < j then .ok (.int (i % j)) h else .stuck
  | _, _ => .stuck
def dPow (x y : D) (h : Hd) : Res D :=
  match x, y with
  | .int i, .int j => if 0 ≤ j ∧ j ≤ 1000 ∧ -(2 ^ 63) < i ∧ i < 2 ^ 63 then .ok (.int (i ^ j.toNat)) h else .stuck
  | _, _ => .stuck
def dEq (n : Bool) (x y : D) (h : Hd) : Res D :=
  if cmpOk (x.see h) (y.see h) then .ok (.bl (n != D.eqv (x.see h) (y.see h))) h else .stuck
def dCmp (f : Int → Int → Bool) (g : List Nat → List Nat → Bool) (x y : D) (h : Hd) : Res D :=
  match x, y with
  | .int i, .int j => .ok (.bl (f i j)) h
  | .str i, .str j => .ok (.bl (g i j)) h
  | _, _ => .stuck
abbrev dLt : D → D → Hd → Res D := dCmp (fun i j => decide (i < j)) fun a b => decide (a < b)
abbrev dLe : D → D → Hd → Res D := dCmp (fun i j => decide (i ≤ j)) fun a b => !decide (b < a)
abbrev dGt : D → D → Hd → Res D := dCmp (fun i j => decide (j < i)) fun a b => decide (b < a)
abbrev dGe : D → D → Hd → Res D := dCmp (fun i j => decide (j ≤ i)) fun a b => !decide (a < b)
def D.has (xs : List D) (d : D) : Bool := xs.any fun y => D.eqv y d
/-- dicts: the keys ints, texts -/
def D.dict? (h : Hd) : D → Option (List (D × D))
  | .ref i => match h[i]? with
    | some (.dict es) => some es
    | _ => none
  | _ => none
def keyOk : D → Bool
  | .int _ => true
  | .str _ => true
  | _ => false
def getD (es : List (D × D)) (k : D) : Option D := (es.find? fun p => D.eqv p.1 k).map (·.2)
def putD (es : List (D × D)) (k v : D) : List (D × D) := if (es.any fun p => D.eqv p.1 k) = true then es.map fun p => if D.eqv p.1 k = true then (p.1, v) else p else es ++ [(k, v)]
def dInS (n : Bool) (x y : D) (h : Hd) : Res D :=
  match y.see h with
  | .lst ys => if cmpOk x (.lst ys) then .ok (.bl (n != D.has ys x)) h else .stuck
  | .scr ys => if cmpOk x (.scr ys) then .ok (.bl (n != D.has ys x)) h else .stuck
  | .tup ys => if cmpOk x (.tup ys) then .ok (.bl (n != D.has ys x)) h else .stuck
  | .str s => match x with
    | .str [ch] => .ok (.bl (n != decide (ch ∈ s))) h
    | _ => .stuck
  | _ => .stuck
def dIn (n : Bool) (x y : D) (h : Hd) : Res D :=
  match y.dict? h with
  | some es => if keyOk x then .ok (.bl (n != (getD es x).isSome)) h else .stuck
  | none => dInS n x y h
def D.isNon? : D → Option Bool
  | .non => some true
  | .ref _ => none
  | _ => some false
def dIsN (n : Bool) (x : D) (h : Hd) : Res D :=
  match x with
  | .non => .ok (.bl (!n)) h
  | .ref i => match h[i]? with
    | some (.lst _) => .ok (.bl n) h
    | some (.dict _) => .ok (.bl n) h
    | _ => .stuck
  | _ => .ok (.bl n) h

/-- an operator of two data as the layer reads it -/
def opR (K : PySem.W.Frag) (f : D → D → Hd → Res D) : R2 := fun x y H Q => ∃ r h d e, R K r h H ∧ Rep K H r x d ∧ Rep K H r y e ∧ okK K (relD K) r H Q (f d e h)
end Ev

/-! Ev3: operators, shown over the layer. -/
namespace Ev
open PySem L2
section
variable {X : Cx}
theorem rep_str {K : PySem.W.Frag} {H : Hp} {r : Rho} {v : V} {s : List Nat} (h : Rep K H r v (.str s)) : ∃ x : Str, v = .str x ∧ x.cps.toList = s ∧ SOk x := by
  cases h with
  | str x ok => exact ⟨x, rfl, rfl, ok⟩
theorem rep_int {K : PySem.W.Frag} {H : Hp} {r : Rho} {v : V} {i : Int} (h : Rep K H r v (.int i)) : v = .int i := by
  cases h; rfl
theorem rep_bl {K : PySem.W.Frag} {H : Hp} {r : Rho} {v : V} {i : Bool} (h : Rep K H r v (.bl i)) : v = .bl i := by
  cases h; rfl
theorem strOk_append {a b : Str} (ha : PySem.PyData.strOk a = true) (hb : PySem.PyData.strOk b = true) : PySem.PyData.strOk (a ++ b) = true := by
  have e : (a ++ b).cps = a.cps ++ b.cps := rfl
  unfold PySem.PyData.strOk at ha hb ⊢
  rw [e, Array.all_append, ha, hb]; rfl
/-- a list's place: closed or open -/
theorem items_at {K : PySem.W.Frag} {H : Hp} {r : Rho} {h : Hd} {v : V} {d : D} {xs : List D} (x : R K r h H) (q : Rep K H r v d) (e : d.items? h = some xs) : ∃ a vs, v = .ref a ∧ H a = some (.lst vs) ∧ RepA K H r vs xs := by
  cases q with
  | lst f k => unfold D.items? at e; cases e; exact ⟨_, _, rfl, f.1, k⟩
  | @ref a i f =>
    obtain ⟨o, h1, h2⟩ := x.get _ _ f
    unfold D.items? at e
    simp only [h1] at e
    cases o with
    | lst ds => cases e; obtain ⟨vs, h3, h4⟩ := h2; exact ⟨_, _, rfl, h3, h4⟩
    | dict es => cases e
    | dead => cases e
  | dead f =>
    have h1 := x.dead _ f
    unfold D.items? at e
    simp only [h1] at e
    cases e
  | _ => unfold D.items? at e; cases e
/-- what is seen of a value -/
theorem see_rep {K : PySem.W.Frag} {H : Hp} {r : Rho} {h : Hd} {v : V} {d : D} (x : R K r h H) (q : Rep K H r v d) (p : (d.see h).plain = true) : Dp K H v (d.see h).toP ∧ (d.see h).toP.canLay0 = true := by
  cases d with
  | ref i =>
    have se : (D.ref i).see h = match h[i]? with | some (.lst xs) => D.lst xs | _ => D.ref i := rfl
    rw [se] at p ⊢
    cases e : h[i]? with
    | none => rw [e] at p; simp [D.plain] at p
    | some o =>
      rw [e] at p
      cases o with
      | lst xs =>
        have p : (D.lst xs).plain = true := p
        show Dp K H v (D.lst xs).toP ∧ (D.lst xs).toP.canLay0 = true
        obtain ⟨a, vs, rfl, h1, h2⟩ := items_at x q (xs := xs) (by unfold D.items?; simp only [e])
        simp only [D.toP]
        refine ⟨.lst (.inl (.inl h1)) (h2.dp (by simpa [D.plain] using p)), ?_⟩
        simpa [PyData.canLay0] using h2.lay
      | dict es => simp [D.plain] at p
      | dead => simp [D.plain] at p
  | _ => exact ⟨q.dp p, q.lay⟩

/-- a new closed list -/
theorem new_shut {r : Rho} {h : Hd} {H : Hp} {Q : VK} {xs : List D} {vs : List V} {p : Addr} {m : Bool} {K : PySem.W.Frag} (x : R K r h H) (k : RepA K H r vs xs) (q : okK K (relD K) r H Q (fresh m xs h)) (n : H p = none) : Q (.ref p) (upd H p (.lst vs)) := by
  unfold fresh at q
  by_cases hz : xs.length ≤ sizeLine
  · rw [if_pos hz] at q
    cases m with
    | false =>
      rw [if_neg (by decide)] at q
      exact q _ r _ (Ext.laid n) (x.laid n) (.lst ⟨upd_same, x.fresh n⟩ (k.mono (Ext.laid n)))
    | true =>
      rw [if_pos rfl] at q
      refine q _ (r.add p) _ (Ext.push n) (x.push n ⟨vs, upd_same, k.mono (Ext.push n)⟩) (.ref ?_)
      rw [← x.len, List.getElem?_append_right (Nat.le_refl _)]; simp
  · rw [if_neg hz] at q; exact q.elim
theorem fresh_len {r : Rho} {h : Hd} {H : Hp} {Q : VK} {xs : List D} {m : Bool} {K : PySem.W.Frag} (q : okK K (relD K) r H Q (fresh m xs h)) : xs.length ≤ sizeLine := by
  unfold fresh at q
  by_cases hz : xs.length ≤ sizeLine
  · exact hz
  · rw [if_neg hz] at q; exact q.elim
theorem new_tup {r : Rho} {h : Hd} {H : Hp} {Q : VK} {xs : List D} {vs : List V} {p : Addr} {ob : Obj} {K : PySem.W.Frag} (x : R K r h H) (k : RepA K H r vs xs) (q : okK K (relD K) r H Q (freshT xs h)) (n : H p = none) (d : PlainT ob) :
    Q (.ref p) (upd H p (.frz ob (.tup vs))) := by
  unfold freshT at q
  by_cases hz : xs.length ≤ sizeLine
  · rw [if_pos hz] at q
    exact q _ r _ (Ext.laid n) (x.laid n) (.tup (.inl ⟨ob, upd_same, d, x.fresh n⟩) (k.mono (Ext.laid n)))
  · rw [if_neg hz] at q; exact q.elim
/-- a new tuple's object -/
theorem tup_laid {pins : List (Addr × Obj)} {σ : L2.St} {H : Hp} {s : Shared} {vs : List V} {its : List Value} {t' : Nat} (I : Inv X pins σ H s) (rv : Vals vs its) (hz : vs.length ≤ sizeLine) :
    Inv X pins σ (upd H s.heap.objs.size (.frz { cls := .type "tuple", data := .seq its.toArray } (.tup vs))) { s with heap := s.heap.push { cls := .type "tuple", data := .seq its.toArray }, toks := t' } :=
  I.laid (t' := t') (fun b ob q => Heap.get?_push_of_some _ q) (Nat.le_refl _) ⟨Heap.get?_push_size _ rfl, hz, its, rv, PyProof.Rows.IsTup.new _ _⟩
theorem freshT_len {r : Rho} {h : Hd} {H : Hp} {Q : VK} {xs : List D} {K : PySem.W.Frag} (q : okK K (relD K) r H Q (freshT xs h)) : xs.length ≤ sizeLine := by
  unfold freshT at q
  by_cases hz : xs.length ≤ sizeLine
  · exact hz
  · rw [if_neg hz] at q; exact q.elim
theorem ok_of {α β : Type} {K : PySem.W.Frag} {rel : Rl β α} {r : Rho} {H : Hp} {Q : β → Hp → Prop} {c : Prop} [Decidable c] {y : Res α} (q : okK K rel r H Q (if c then y else .stuck)) : c ∧ okK K rel r H Q y := by
  by_cases h : c
  · rw [if_pos h] at q; exact ⟨h, q⟩
  · rw [if_neg h] at q; exact q.elim

theorem op_addE {m : Bool} : OpR X (binaryOp .Add) (opR X.K (dAdd m)) := by
  intro pins s σ H x y v u Q I rx ry h
  obtain ⟨r, h, d, e, Y, hd, he, q⟩ := h
  have lists : ∀ xs ys, d.items? h = some xs → e.items? h = some ys → okK X.K (relD X.K) r H Q (fresh m (xs ++ ys) h) → wpAny (model X.prog X.w) X.A (binaryOp .Add v u) (EP X pins σ Q) X.xe s := by
    intro xs ys e1 e2 q
    obtain ⟨a, vs, rfl, h1, k1⟩ := items_at Y hd e1
    obtain ⟨b, us, rfl, h2, k2⟩ := items_at Y he e2
    have hz := fresh_len q
    rw [List.length_append] at hz
    exact op_cat pins s σ H _ _ v u Q I rx ry ⟨a, b, vs, us, rfl, rfl, h1, h2, by rw [k1.len, k2.len]; exact hz, fun p n => new_shut Y (k1.app k2) q n⟩
  unfold dAdd at q
  split at q
  · cases hd; cases he
    exact op_add pins s σ H _ _ v u Q I rx ry ⟨_, _, rfl, rfl, q.now Y (.int _)⟩
  · obtain ⟨x, rfl, rfl, ox⟩ := rep_str hd
    obtain ⟨y, rfl, rfl, oy⟩ := rep_str he
    unfold freshS at q
    obtain ⟨hz, q⟩ := ok_of q
    refine op_add_str pins s σ H _ _ v u Q I rx ry ⟨_, _, rfl, rfl, ?_, q.now Y ?_⟩
    · have e1 : x.length = x.cps.toList.length := by rw [Array.length_toList]; rfl
      have e2 : y.length = y.cps.toList.length := by rw [Array.length_toList]; rfl
      rw [List.length_append] at hz
      rw [e1, e2, sizeLine_eq]; omega
    · have e : (x ++ y).cps.toList = x.cps.toList ++ y.cps.toList := by
        show (x.cps ++ y.cps).toList = _
        rw [Array.toList_append]
      show Rep X.K H r (.str (x ++ y)) (.str (x.cps.toList ++ y.cps.toList))
      rw [← e]
      refine .str _ ⟨strOk_append ox.1 oy.1, ?_⟩
      have e3 : (x ++ y).cps.size = (x ++ y).cps.toList.length := by rw [Array.length_toList]
      rw [e3, e]; exact hz
  · cases hd with
    | @tup a vs _ f k =>
      cases he with
      | @tup b us _ g l =>
        have hz := freshT_len q
        rw [List.length_append] at hz
        have kl := k.len
        have ll := l.len
        cases rx
        cases ry
        obtain ⟨its, r1, p1, _⟩ := I.tuple f.seq
        obtain ⟨its2, r2, p2, _⟩ := I.tuple g.seq
        by_cases hx : vs = []
        · subst hx
          cases k
          cases r1
          refine L2.cat_tup0 p1 p2 ⟨.ref b, H, I, rfl, ?_⟩
          unfold freshT at q
          rw [if_pos (by simpa using hz)] at q
          exact q.now Y (.tup g l)
        · refine HT.cat_tup p1 p2 (fun z => hx (r1.nil_iff.mp z)) (fun z => ⟨.ref a, H, I, rfl, ?_⟩) (fun z => ?_) (by rw [← r1.length, ← r2.length]; omega)
          · have hu := r2.nil_iff.mp z
            subst hu
            cases l
            unfold freshT at q
            rw [if_pos (by simpa using hz), List.append_nil] at q
            exact q.now Y (.tup f k)
          · exact ⟨.ref _, _, tup_laid (t' := s.toks) I (r1.append r2) (by rw [List.length_append]; omega), rfl, new_tup Y (k.app l) q (I.hok.fresh (Nat.le_refl _)) ⟨_, _, rfl⟩⟩
  · split at q
    · rename_i xs ys e1 e2
      exact lists xs ys e1 e2 q
    · exact q.elim
theorem op_subE : OpR X (binaryOp .Sub) (opR X.K dSub) := by
  intro pins s σ H x y v u Q I rx ry h
  obtain ⟨r, h, d, e, Y, hd, he, q⟩ := h
  unfold dSub at q
  split at q
  · cases hd; cases he
    exact op_sub pins s σ H _ _ v u Q I rx ry ⟨_, _, rfl, rfl, q.now Y (.int _)⟩
  · exact q.elim
theorem op_mulE {m : Bool} : OpR X (binaryOp .Mult) (opR X.K (dMul m)) := by
  intro pins s σ H x y v u Q I rx ry h
  obtain ⟨r, h, d, e, Y, hd, he, q⟩ := h
  unfold dMul at q
  split at q
  · cases hd; cases he
    obtain ⟨c, q⟩ := ok_of q
    exact op_mul pins s σ H _ _ v u Q I rx ry ⟨_, _, rfl, rfl, c, q.now Y (.int _)⟩
  · cases he
    split at q
    · rename_i xs e1
      obtain ⟨⟨c1, c2, c3⟩, q⟩ := ok_of q
      obtain ⟨a, vs, rfl, h1, k1⟩ := items_at Y hd e1
      refine op_rep pins s σ H _ _ v u Q I rx ry ⟨a, _, vs, rfl, rfl, h1, by omega, by omega, by rw [k1.len]; exact c3, fun p n => new_shut Y ?_ q n⟩
      have rep : ∀ n : Nat, RepA X.K H r (List.replicate n vs).flatten (List.replicate n xs).flatten := fun n => by
        induction n with
        | zero => exact .nil
        | succ n ih => rw [List.replicate_succ, List.replicate_succ, List.flatten_cons, List.flatten_cons]; exact k1.app ih
      exact rep _
    · exact q.elim
  · exact q.elim
theorem op_divE : OpR X (binaryOp .FloorDiv) (opR X.K dDiv) := by
  intro pins s σ H x y v u Q I rx ry h
  obtain ⟨r, h, d, e, Y, hd, he, q⟩ := h
  unfold dDiv at q
  split at q
  · rename_i i j
    cases hd; cases he
    obtain ⟨c, q⟩ := ok_of q
    exact op_fdivW pins s σ H _ _ v u Q I rx ry ⟨i, j, rfl, rfl, wide_div c.1 (show j.natAbs < 2 ^ 64 by have := c.2; omega) (by decide) (by decide), q.now Y (.int _)⟩
  · exact q.elim
theorem op_modE : OpR X (binaryOp .Mod) (opR X.K dMod) := by
  intro pins s σ H x y v u Q I rx ry h
  obtain ⟨r, h, d, e, Y, hd, he, q⟩ := h
  unfold dMod at q
  split at q
  · cases hd; cases he
    obtain ⟨c, q⟩ := ok_of q
    exact op_mod pins s σ H _ _ v u Q I rx ry ⟨_, _, rfl, rfl, c, q.now Y (.int _)⟩
  · exact q.elim
theorem op_powE : OpR X (binaryOp .Pow) (opR X.K dPow) := by
  intro pins s σ H x y v u Q I rx ry h
  obtain ⟨r, h, d, e, Y, hd, he, q⟩ := h
  unfold dPow at q
  split at q
  · cases hd; cases he
    obtain ⟨c, q⟩ := ok_of q
    exact op_pow pins s σ H _ _ v u Q I rx ry ⟨_, _, rfl, rfl, ⟨c.1, by omega, by omega⟩, q.now Y (.int _)⟩
  · exact q.elim

theorem near_room {d e : D} (h : near d e = true) : min d.toP.depth e.toP.depth ≤ 500 := by
  unfold near at h
  rw [Bool.or_eq_true] at h
  rw [toP_dep, toP_dep]
  rcases h with h | h
  · have := of_decide_eq_true h; omega
  · have := of_decide_eq_true h; omega
theorem cmpOk_parts {d e : D} (h : cmpOk d e = true) : d.plain = true ∧ e.plain = true ∧ near d e = true := by
  unfold cmpOk at h
  rw [Bool.and_eq_true, Bool.and_eq_true] at h
  exact ⟨h.1.1, h.1.2, h.2⟩
theorem op_eqE (hu : X.A.units + 560 < cLine) : OpR X (compareOp .Eq) (opR X.K (dEq false)) := by
  intro pins s σ H x y v u Q I rx ry h
  obtain ⟨r, h, d, e, Y, hd, he, q⟩ := h
  unfold dEq at q
  obtain ⟨c, q⟩ := ok_of q
  obtain ⟨p1, p2, nr⟩ := cmpOk_parts c
  obtain ⟨a1, l1⟩ := see_rep Y hd p1
  obtain ⟨a2, l2⟩ := see_rep Y he p2
  obtain ⟨as, r1⟩ := Dp.reads I _ _ _ a1 rx
  obtain ⟨bs, r2⟩ := Dp.reads I _ _ _ a2 ry
  have hn := near_room nr
  refine SeqAt.compareEq_reads r1 r2 l1 l2 (by omega) ⟨.bl _, H, I, rfl, ?_⟩
  rw [toP_eqv _ _ p1 p2]
  have z : (false != D.eqv (d.see h) (e.see h)) = D.eqv (d.see h) (e.see h) := by cases D.eqv (d.see h) (e.see h) <;> rfl
  rw [z] at q
  exact q.now Y (.bl _)
theorem op_neE (hu : X.A.units + 560 < cLine) : OpR X (compareOp .NotEq) (opR X.K (dEq true)) := by
  intro pins s σ H x y v u Q I rx ry h
  obtain ⟨r, h, d, e, Y, hd, he, q⟩ := h
  unfold dEq at q
  obtain ⟨c, q⟩ := ok_of q
  obtain ⟨p1, p2, nr⟩ := cmpOk_parts c
  obtain ⟨a1, l1⟩ := see_rep Y hd p1
  obtain ⟨a2, l2⟩ := see_rep Y he p2
  obtain ⟨as, r1⟩ := Dp.reads I _ _ _ a1 rx
  obtain ⟨bs, r2⟩ := Dp.reads I _ _ _ a2 ry
  have hn := near_room nr
  refine SeqAt.compareNe_reads r1 r2 l1 l2 (by omega) ⟨.bl _, H, I, rfl, ?_⟩
  rw [toP_eqv _ _ p1 p2]
  have z : (true != D.eqv (d.see h) (e.see h)) = !D.eqv (d.see h) (e.see h) := by cases D.eqv (d.see h) (e.see h) <;> rfl
  rw [z] at q
  exact q.now Y (.bl _)
theorem op_cmpE {op : CmpOp} {f : Int → Int → Bool} {g : List Nat → List Nat → Bool} (h1 : OpR X (compareOp op) (rI0 fun i j => .bl (f i j)))
    (h2 : OpR X (compareOp op) (fun x y H Q => ∃ i j : Str, x = .str i ∧ y = .str j ∧ Q (.bl (g i.cps.toList j.cps.toList)) H)) : OpR X (compareOp op) (opR X.K (dCmp f g)) := by
  intro pins s σ H x y v u Q I rx ry h
  obtain ⟨r, h, d, e, Y, hd, he, q⟩ := h
  unfold dCmp at q
  split at q
  · cases hd; cases he
    exact h1 pins s σ H _ _ v u Q I rx ry ⟨_, _, rfl, rfl, q.now Y (.bl _)⟩
  · obtain ⟨x, rfl, rfl, ox⟩ := rep_str hd
    obtain ⟨y, rfl, rfl, oy⟩ := rep_str he
    exact h2 pins s σ H _ _ v u Q I rx ry ⟨_, _, rfl, rfl, q.now Y (.bl _)⟩
  · exact q.elim
theorem op_ltE : OpR X (compareOp .Lt) (opR X.K dLt) := op_cmpE op_lt op_lt_str
theorem op_leE : OpR X (compareOp .LtE) (opR X.K dLe) := op_cmpE op_le op_le_str
theorem op_gtE : OpR X (compareOp .Gt) (opR X.K dGt) := op_cmpE op_gt op_gt_str
theorem op_geE : OpR X (compareOp .GtE) (opR X.K dGe) := op_cmpE op_ge op_ge_str

theorem has_toP {d : D} (hd : d.plain = true) : ∀ {xs : List D}, D.plainA xs = true → ((D.toPA xs).any fun y => PyData.eqv y d.toP) = D.has xs d
  | [], _ => by simp [D.toPA, D.has]
  | x :: xs, h => by
    simp only [D.plainA, Bool.and_eq_true] at h
    have ih := has_toP hd h.2
    simp only [D.toPA, D.has, List.any_cons, toP_eqv x d h.1 hd]
    unfold D.has at ih
    rw [ih]
theorem room_in {d : D} {ys : List D} {A : Around} (hu : A.units + 560 < cLine) (hn : min d.toP.depth (D.depA ys + 1) ≤ 500) : A.units + 1 + min (PyData.depthAll (D.toPA ys)) d.toP.depth < cLine := by
  rw [toPA_dep]; omega
theorem see_eq_ref {h : Hd} {d : D} {ys : List D} (e : d.see h = .lst ys) : d.items? h = some ys := by
  cases d with
  | ref i =>
    have se : (D.ref i).see h = match h[i]? with | some (.lst xs) => D.lst xs | _ => D.ref i := rfl
    rw [se] at e
    unfold D.items?
    cases q : h[i]? with
    | none => rw [q] at e; cases e
    | some o =>
      rw [q] at e
      cases o with
      | lst xs => cases e; simp only [q]
      | dict es => cases e
      | dead => cases e
  | lst xs => unfold D.see at e; cases e; rfl
  | _ => unfold D.see at e; cases e
theorem op_inS {n : Bool} (hu : X.A.units + 560 < cLine) : OpR X (compareOp (if n then .NotIn else .In)) (opR X.K (dInS n)) := by
  intro pins s σ H x y v u Q I rx ry h
  obtain ⟨r, h, d, e, Y, hd, he, q⟩ := h
  have listy : ∀ ys, cmpOk d (.lst ys) = true ∨ cmpOk d (.scr ys) = true → Dp X.K H y (.list (D.toPA ys)) → PyData.canLayAll0 (D.toPA ys) = true → okK X.K (relD X.K) r H Q (.ok (.bl (n != D.has ys d)) h) → wpAny (model X.prog X.w) X.A (compareOp (if n then .NotIn else .In) v u) (EP X pins σ Q) X.xe s := by
    intro ys c a2 l2 q
    have c' : d.plain = true ∧ D.plainA ys = true ∧ min d.toP.depth (D.depA ys + 1) ≤ 500 := by
      rcases c with c | c
      · obtain ⟨p1, p2, nr⟩ := cmpOk_parts c
        have hn := near_room nr
        rw [toP_dep (.lst ys)] at hn
        simp only [D.dep] at hn
        exact ⟨p1, by simpa [D.plain] using p2, hn⟩
      · obtain ⟨p1, p2, nr⟩ := cmpOk_parts c
        have hn := near_room nr
        rw [toP_dep (.scr ys)] at hn
        simp only [D.dep] at hn
        exact ⟨p1, by simpa [D.plain] using p2, hn⟩
    obtain ⟨p1, p2, hn⟩ := c'
    obtain ⟨as, r1⟩ := Dp.reads I _ _ _ (hd.dp p1) rx
    obtain ⟨bs, r2⟩ := Dp.reads I _ _ _ a2 ry
    have hr := room_in hu hn
    cases n with
    | false =>
      refine SeqAt.in_list_reads r2 r1 l2 hd.lay hr ⟨.bl _, H, I, rfl, ?_⟩
      rw [has_toP p1 p2]
      have z : (false != D.has ys d) = D.has ys d := by cases D.has ys d <;> rfl
      rw [z] at q
      exact q.now Y (.bl _)
    | true =>
      refine SeqAt.notIn_list_reads r2 r1 l2 hd.lay hr ⟨.bl _, H, I, rfl, ?_⟩
      rw [has_toP p1 p2]
      have z : (true != D.has ys d) = !D.has ys d := by cases D.has ys d <;> rfl
      rw [z] at q
      exact q.now Y (.bl _)
  unfold dInS at q
  split at q
  · rename_i ys ee
    obtain ⟨c, q⟩ := ok_of q
    have p2 : D.plainA ys = true := by simpa [D.plain] using (cmpOk_parts c).2.1
    obtain ⟨a, vs, rfl, h1, k1⟩ := items_at Y he (see_eq_ref ee)
    exact listy ys (.inl c) (.lst (.inl (.inl h1)) (k1.dp p2)) k1.lay q
  · rename_i ys ee
    obtain ⟨c, q⟩ := ok_of q
    have p2 : D.plainA ys = true := by simpa [D.plain] using (cmpOk_parts c).2.1
    have es : e = .scr ys := by
      cases e with
      | ref i =>
        have se : (D.ref i).see h = match h[i]? with | some (.lst xs) => D.lst xs | _ => D.ref i := rfl
        rw [se] at ee
        split at ee <;> cases ee
      | _ => exact ee
    subst es
    cases he with
    | scr f k => exact listy ys (.inr c) (.lst f.seq (k.dp p2)) k.lay q
  · rename_i ys ee
    obtain ⟨c, q⟩ := ok_of q
    obtain ⟨p1, p2, nr⟩ := cmpOk_parts c
    have p2' : D.plainA ys = true := by simpa [D.plain] using p2
    have hn := near_room nr
    rw [toP_dep (.tup ys)] at hn
    simp only [D.dep] at hn
    have es : e = .tup ys := by
      cases e with
      | ref i =>
        have se : (D.ref i).see h = match h[i]? with | some (.lst xs) => D.lst xs | _ => D.ref i := rfl
        rw [se] at ee
        split at ee <;> cases ee
      | _ => exact ee
    subst es
    cases he with
    | tup f k =>
      obtain ⟨as, r1⟩ := Dp.reads I _ _ _ (hd.dp p1) rx
      obtain ⟨bs, r2⟩ := Dp.reads I (.tuple (D.toPA ys)) _ _ (.tup f.seq (k.dp p2')) ry
      have hr := room_in hu hn
      cases n with
      | false =>
        refine SeqAt.in_tuple_reads r2 r1 k.lay hd.lay hr ⟨.bl _, H, I, rfl, ?_⟩
        rw [has_toP p1 p2']
        have z : (false != D.has ys d) = D.has ys d := by cases D.has ys d <;> rfl
        rw [z] at q
        exact q.now Y (.bl _)
      | true =>
        refine SeqAt.notIn_tuple_reads r2 r1 k.lay hd.lay hr ⟨.bl _, H, I, rfl, ?_⟩
        rw [has_toP p1 p2']
        have z : (true != D.has ys d) = !D.has ys d := by cases D.has ys d <;> rfl
        rw [z] at q
        exact q.now Y (.bl _)
  · rename_i ss ee
    have es : e = .str ss := by
      cases e with
      | ref i =>
        have se : (D.ref i).see h = match h[i]? with | some (.lst xs) => D.lst xs | _ => D.ref i := rfl
        rw [se] at ee
        split at ee <;> cases ee
      | _ => exact ee
    subst es
    split at q
    · rename_i ch
      obtain ⟨x1, rfl, e1, ox⟩ := rep_str hd
      obtain ⟨y1, rfl, e2, oy⟩ := rep_str he
      have ex : x1 = ⟨#[ch]⟩ := by
        obtain ⟨cs⟩ := x1
        simp only at e1
        congr 1
        apply Array.toList_inj.mp
        simpa using e1
      subst ex
      cases n with
      | false =>
        refine op_in_sign pins s σ H _ _ v u Q I rx ry ⟨ch, y1, rfl, rfl, ?_⟩
        rw [e2]
        have z : (false != decide (ch ∈ ss)) = decide (ch ∈ ss) := by cases decide (ch ∈ ss) <;> rfl
        rw [z] at q
        exact q.now Y (.bl _)
      | true =>
        refine op_notIn_sign pins s σ H _ _ v u Q I rx ry ⟨ch, y1, rfl, rfl, ?_⟩
        rw [e2]
        have z : (true != decide (ch ∈ ss)) = !decide (ch ∈ ss) := by cases decide (ch ∈ ss) <;> rfl
        rw [z] at q
        exact q.now Y (.bl _)
    · exact q.elim
  · exact q.elim
/-! dicts with ints and texts as keys -/
theorem keyD_eqv (a b : Key) : D.eqv (KeyD a) (KeyD b) = decide (a = b) := by
  cases a with
  | inl i =>
    cases b with
    | inl j =>
      simp only [KeyD, D.eqv]
      by_cases e : i = j
      · subst e; simp
      · rw [beq_eq_false_iff_ne.mpr e, decide_eq_false fun z => e (Sum.inl.inj z)]
    | inr y => simp [KeyD, D.eqv]
  | inr x =>
    cases b with
    | inl j => simp [KeyD, D.eqv]
    | inr y =>
      simp only [KeyD, D.eqv]
      by_cases e : x = y
      · subst e; simp
      · rw [decide_eq_false fun z => e (Sum.inr.inj z)]
        refine beq_eq_false_iff_ne.mpr fun z => e ?_
        obtain ⟨x⟩ := x
        obtain ⟨y⟩ := y
        congr 1
        exact Array.toList_inj.mp z
theorem key_rep {K : PySem.W.Frag} {H : Hp} {r : Rho} {v : V} {d : D} (q : Rep K H r v d) (e : keyOk d = true) : ∃ k : Key, v = kV k ∧ d = KeyD k ∧ KeyOk k := by
  cases d with
  | int i => cases q; exact ⟨.inl i, rfl, rfl, trivial⟩
  | str s => obtain ⟨x, rfl, rfl, ok⟩ := rep_str q; exact ⟨.inr x, rfl, rfl, ok⟩
  | _ => cases e
theorem val_rep {K : PySem.W.Frag} {H : Hp} {r : Rho} {k : Key} : ∀ {es : List (D × D)} {kvs : List (Key × V)}, RepK K H r kvs es →
    (∀ d, getD es (KeyD k) = some d → ∃ v, valV kvs k = some v ∧ Rep K H r v d) ∧ (getD es (KeyD k) = none → valV kvs k = none)
  | _, _, .nil => ⟨fun _ e => by simp [getD] at e, fun _ => rfl⟩
  | _, _, .cons (k := k0) (v := v) (d := d0) (kvs := kvs) (es := es) h q l => by
    obtain ⟨i1, i2⟩ := val_rep (k := k) l
    by_cases e : k0 = k
    · subst e
      refine ⟨fun d e => ?_, fun e => ?_⟩
      · simp only [getD, List.find?_cons, keyD_eqv, decide_true, Option.map_some] at e
        cases e
        exact ⟨v, valV_pos rfl, q⟩
      · simp [getD, List.find?_cons, keyD_eqv] at e
    · have g : getD ((KeyD k0, d0) :: es) (KeyD k) = getD es (KeyD k) := by
        simp only [getD, List.find?_cons, keyD_eqv, decide_eq_false e]
      have g2 : valV ((k0, v) :: kvs) k = valV kvs k := by simp [valV, List.find?_cons, e]
      rw [g, g2]
      exact ⟨i1, i2⟩
theorem any_rep {K : PySem.W.Frag} {H : Hp} {r : Rho} {k : Key} : ∀ {es : List (D × D)} {kvs : List (Key × V)}, RepK K H r kvs es → (es.any fun p => D.eqv p.1 (KeyD k)) = kvs.any fun kv => decide (kv.1 = k)
  | _, _, .nil => rfl
  | _, _, .cons h q l => by simp only [List.any_cons, keyD_eqv, any_rep l]
theorem put_rep {K : PySem.W.Frag} {H : Hp} {r : Rho} {k : Key} {v : V} {d : D} (ok : KeyOk k) (rv : Rep K H r v d) {es : List (D × D)} {kvs : List (Key × V)} (l : RepK K H r kvs es) : RepK K H r (putK kvs k v) (putD es (KeyD k) d) := by
  unfold putK putD
  rw [any_rep l]
  by_cases c : (kvs.any fun kv => decide (kv.1 = k)) = true
  · rw [if_pos c, if_pos c]
    clear c
    induction l with
    | nil => exact .nil
    | @cons k0 v0 d0 kvs es h q l ih =>
      simp only [List.map_cons, keyD_eqv]
      by_cases e : k0 = k
      · subst e
        simp only [decide_true, if_true]
        exact .cons h rv ih
      · simp only [decide_eq_false e, if_neg e]
        exact .cons h q ih
  · rw [if_neg c, if_neg c]
    clear c
    induction l with
    | nil => exact .cons ok rv .nil
    | cons h q l ih => exact .cons h q ih
theorem repK_len {K : PySem.W.Frag} {H : Hp} {r : Rho} : ∀ {es : List (D × D)} {kvs : List (Key × V)}, RepK K H r kvs es → kvs.length = es.length
  | _, _, .nil => rfl
  | _, _, .cons h q l => by simp [repK_len l]
/-- an open dict -/
theorem dict_at {K : PySem.W.Frag} {H : Hp} {r : Rho} {h : Hd} {v : V} {d : D} {es : List (D × D)} (Y : R K r h H) (q : Rep K H r v d) (e : d.dict? h = some es) :
    ∃ a i kvs, v = .ref a ∧ d = .ref i ∧ r.l[i]? = some (some a) ∧ h[i]? = some (.dict es) ∧ H a = some (.dK kvs) ∧ RepK K H r kvs es := by
  cases d with
  | ref i =>
    have se : (D.ref i).dict? h = match h[i]? with | some (.dict es) => some es | _ => none := rfl
    rw [se] at e
    split at e
    · rename_i e1
      cases e
      cases q with
      | ref f =>
        obtain ⟨o, h1, h2⟩ := Y.get _ _ f
        rw [e1] at h1; cases h1
        obtain ⟨kvs, h3, h4⟩ := h2
        exact ⟨_, i, kvs, rfl, rfl, f, e1, h3, h4⟩
      | dead f => have := Y.dead _ f; rw [e1] at this; cases this
    · cases e
  | _ => cases e
theorem get_at {K : PySem.W.Frag} {H : Hp} {r : Rho} {h : Hd} {v u : V} {d e : D} {es : List (D × D)} (Y : R K r h H) (q : Rep K H r v d) (e1 : d.dict? h = some es) (ru : Rep K H r u e) (ko : keyOk e = true) :
    ∃ a, v = .ref a ∧ ∃ o, DGet H a u o ∧ ((∃ x w, o = some w ∧ getD es e = some x ∧ Rep K H r w x) ∨ (o = none ∧ getD es e = none)) := by
  obtain ⟨a, i, kvs, rfl, rfl, f, hi, h1, l⟩ := dict_at Y q e1
  obtain ⟨k, rfl, rfl, ok⟩ := key_rep ru ko
  obtain ⟨i1, i2⟩ := val_rep (k := k) l
  refine ⟨a, rfl, valV kvs k, .k h1, ?_⟩
  cases g : getD es (KeyD k) with
  | none => exact .inr ⟨i2 g, rfl⟩
  | some x =>
    obtain ⟨w, e3, rw'⟩ := i1 x g
    exact .inl ⟨x, w, e3, rfl, rw'⟩
theorem op_inE {n : Bool} (hu : X.A.units + 560 < cLine) : OpR X (compareOp (if n then .NotIn else .In)) (opR X.K (dIn n)) := by
  intro pins s σ H x y v u Q I rx ry ⟨r, h, d, e, Y, hd, he, q⟩
  unfold dIn at q
  split at q
  · rename_i es e1
    obtain ⟨ko, q⟩ := ok_of q
    obtain ⟨a, rfl, o, g, go⟩ := get_at Y he e1 hd ko
    cases ry
    have eo : (getD es d).isSome = o.isSome := by
      rcases go with ⟨x, w, e2, e3, _⟩ | ⟨e2, e3⟩ <;> rw [e2, e3] <;> rfl
    cases n with
    | false =>
      refine d_in (by omega) I g rx fun s' I' => ⟨.bl o.isSome, H, I', rfl, ?_⟩
      have z : (false != (getD es d).isSome) = o.isSome := by rw [eo]; cases o.isSome <;> rfl
      rw [z] at q
      exact q.now Y (.bl _)
    | true =>
      refine d_notIn (by omega) I g rx fun s' I' => ⟨.bl (!o.isSome), H, I', rfl, ?_⟩
      have z : (true != (getD es d).isSome) = !o.isSome := by rw [eo]; cases o.isSome <;> rfl
      rw [z] at q
      exact q.now Y (.bl _)
  · exact op_inS hu pins s σ H x y v u Q I rx ry ⟨r, h, d, e, Y, hd, he, q⟩
end
end Ev

/-! Ev4: expressions as evaluations, and what they are worth over the layer. -/
namespace Ev
open PySem L2

abbrev M := Calls → Tau → Hd → Res D
abbrev MB := Calls → Tau → Hd → Res Bool
abbrev ML := Calls → Tau → Hd → Res (List D)
def mVar (i : Nat) : M := fun _ t h => match t[i]? with
  | some (some d) => .ok d h
  | _ => .stuck
def mC (d : D) : M := fun _ _ h => .ok d h
def aNil : ML := fun _ _ h => .ok [] h
def aCons (m : M) (l : ML) : ML := fun c t h => (m c t h).bind fun d h1 => (l c t h1).bind fun ds h2 => .ok (d :: ds) h2
def mTup (l : ML) : M := fun c t h => (l c t h).bind freshT
def mLst (b : Bool) (l : ML) : M := fun c t h => (l c t h).bind (fresh b)
def mOp (f : D → D → Hd → Res D) (a b : M) : M := fun c t h => (a c t h).bind fun x h1 => (b c t h1).bind fun y h2 => f x y h2
def mUn (f : D → Hd → Res D) (a : M) : M := fun c t h => (a c t h).bind f
def dTrue (x : D) (h : Hd) : Res Bool :=
  match x with
  | .non => .ok false h
  | .bl b => .ok b h
  | .int i => .ok (i != 0) h
  | .str s => .ok (!s.isEmpty) h
  | .tup xs => .ok (!xs.isEmpty) h
  | .lst xs => .ok (!xs.isEmpty) h
  | .scr xs => .ok (!xs.isEmpty) h
  | .ref i => match h[i]? with
    | some (.lst xs) => .ok (!xs.isEmpty) h
    | _ => .stuck
  | .exc _ _ _ _ => .stuck
def dNeg (x : D) (h : Hd) : Res D := match x with
  | .int i => .ok (.int (-i)) h
  | _ => .stuck
def dNot (x : D) (h : Hd) : Res D := (dTrue x h).bind fun k h1 => .ok (.bl (!k)) h1
def tVal (a : M) : MB := fun c t h => (a c t h).bind dTrue
def dBl (x : D) (h : Hd) : Res Bool := match x with
  | .bl b => .ok b h
  | _ => .stuck
/-- a comparison as a test -/
def tCmp (a : M) : MB := fun c t h => (a c t h).bind dBl
def tAnd (a b : MB) : MB := fun c t h => (a c t h).bind fun k h1 => if k then b c t h1 else .ok false h1
def tOr (a b : MB) : MB := fun c t h => (a c t h).bind fun k h1 => if k then .ok true h1 else b c t h1
def tNot (a : MB) : MB := fun c t h => (a c t h).bind fun k h1 => .ok (!k) h1
def mAnd (a b : M) : M := fun c t h => (a c t h).bind fun x h1 => (dTrue x h1).bind fun k h2 => if k then b c t h2 else .ok x h2
def mOr (a b : M) : M := fun c t h => (a c t h).bind fun x h1 => (dTrue x h1).bind fun k h2 => if k then .ok x h2 else b c t h2
def mIf (k : MB) (a b : M) : M := fun c t h => (k c t h).bind fun z h1 => if z then a c t h1 else b c t h1
def mChain (f g : D → D → Hd → Res D) (a b e : M) : M := fun c t h => (a c t h).bind fun x h1 => (b c t h1).bind fun y h2 => (f x y h2).bind fun z h3 => (dBl z h3).bind fun k h4 =>
  if k then (e c t h4).bind fun w h5 => g y w h5 else .ok (.bl false) h4
def ixI (n : Nat) (i : Int) : Option Nat := if 0 ≤ i then (if i < n then some i.toNat else none) else if -(n : Int) ≤ i then some (i + n).toNat else none
def dIxS (x y : D) (h : Hd) : Res D :=
  match y with
  | .int i =>
    match x.see h with
    | .lst xs => match (ixI xs.length i).bind fun j => xs[j]? with
      | some d => .ok d h
      | none => .stuck
    | .scr xs => match (ixI xs.length i).bind fun j => xs[j]? with
      | some d => .ok d h
      | none => .stuck
    | .tup xs => match (ixI xs.length i).bind fun j => xs[j]? with
      | some d => .ok d h
      | none => .stuck
    | .str s => match (ixI s.length i).bind fun j => s[j]? with
      | some ch => .ok (.str [ch]) h
      | none => .stuck
    | _ => .stuck
  | _ => .stuck
def dIx (x y : D) (h : Hd) : Res D :=
  match x.dict? h with
  | some es => if keyOk y then (match getD es y with
    | some d => .ok d h
    | none => .stuck) else .stuck
  | none => dIxS x y h
def cutI (n d : Nat) : Option Int → Nat
  | none => d
  | some v => if v < 0 then (v + (n : Int)).toNat else min v.toNat n
def cutL {α : Type} (xs : List α) (lo hi : Option Int) : List α := (xs.drop (cutI xs.length 0 lo)).take (cutI xs.length xs.length hi - cutI xs.length 0 lo)
def dCut (m : Bool) (x : D) (lo hi : Option Int) (h : Hd) : Res D :=
  match x.see h with
  | .lst xs => fresh m (cutL xs lo hi) h
  | .scr xs => fresh m (cutL xs lo hi) h
  | .tup xs => .ok (.tup (cutL xs lo hi)) h
  | .str s => .ok (.str (cutL s lo hi)) h
  | _ => .stuck
def pNo : Calls → Tau → Hd → Res (Option Int) := fun _ _ h => .ok none h
def dPart (x : D) (h : Hd) : Res (Option Int) := match x with
  | .int i => .ok (some i) h
  | _ => .stuck
def pYes (a : M) : Calls → Tau → Hd → Res (Option Int) := fun c t h => (a c t h).bind dPart
def mCut (m : Bool) (a : M) (lo hi : Calls → Tau → Hd → Res (Option Int)) : M := fun c t h => (a c t h).bind fun x h1 => (lo c t h1).bind fun l h2 => (hi c t h2).bind fun u h3 => dCut m x l u h3
def mCall (i : Nat) (l : ML) : M := fun c t h => (l c t h).bind fun ds h1 => c i ds h1
def mB (f : List D → Hd → Res D) (l : ML) : M := fun c t h => (l c t h).bind f

section
variable {X : Cx} {CL : List XC} {W : WX} {c : Calls}
abbrev DE (X : Cx) (CL : List XC) (W : WX) (c : Calls) (e : Expr) (m : M) : Prop := PE X e (rd X.K CL W (relD X.K) c m)
abbrev DT (X : Cx) (CL : List XC) (W : WX) (c : Calls) (e : Expr) (m : MB) : Prop := PT X e (rd X.K CL W relB c m)
abbrev DW (X : Cx) (CL : List XC) (W : WX) (c : Calls) (e : Expr) (m : MB) : Prop := PW X e (rd X.K CL W relB c m)
abbrev DA (X : Cx) (CL : List XC) (W : WX) (c : Calls) (es : List Expr) (m : ML) : Prop := PA X es (rd X.K CL W (relA X.K) c m)
theorem pimp {e : Expr} {t u : TE} (h : PE X e t) (i : ∀ σ H Q, u σ H Q → t σ H Q) : PE X e u := ⟨fun pins s σ H Q I q => h.run pins s σ H Q I (i σ H Q q)⟩
theorem timp {e : Expr} {t u : TT} (h : PT X e t) (i : ∀ σ H Q, u σ H Q → t σ H Q) : PT X e u := ⟨fun pins s σ H Q I q => h.run pins s σ H Q I (i σ H Q q)⟩
theorem wimp {e : Expr} {t u : TT} (h : PW X e t) (i : ∀ σ H Q, u σ H Q → t σ H Q) : PW X e u := ⟨fun w pins s σ H Q I q => h.run w pins s σ H Q I (i σ H Q q)⟩
theorem aimp {e : List Expr} {t u : TA} (h : PA X e t) (i : ∀ σ H Q, u σ H Q → t σ H Q) : PA X e u := ⟨fun pos pins s σ H Q I q => h.run pos pins s σ H Q I (i σ H Q q)⟩

theorem de_var {i : Nat} {x : Str} {pos : Pos} (hN : X.N[i]? = some x) (hv : Vis X.env.scope x) (hd : (x == ("__debug__" : Str)) = false) (hcd : (x == ("__classdict__" : Str)) = false) : DE X CL W c (.Name x pos) (mVar i) := by
  refine pimp (pe_var hN hv hd hcd) fun σ H Q ⟨r, t, h, Y, S, q⟩ => ?_
  unfold mVar at q
  split at q
  · rename_i d e
    obtain ⟨v, e1, rv⟩ := S.get i d e
    exact ⟨v, e1, q.now Y rv⟩
  · exact q.elim
theorem de_int {i j pos} : DE X CL W c (.Constant (.int i) j pos) (mC (.int i)) := pimp pe_int fun σ H Q ⟨r, t, h, Y, S, q⟩ => q.now Y (.int i)
theorem de_bl {i j pos} : DE X CL W c (.Constant (.bool i) j pos) (mC (.bl i)) := pimp pe_bl fun σ H Q ⟨r, t, h, Y, S, q⟩ => q.now Y (.bl i)
theorem de_non {j pos} : DE X CL W c (.Constant .none j pos) (mC .non) := pimp pe_non fun σ H Q ⟨r, t, h, Y, S, q⟩ => q.now Y .non
theorem de_str {x : Str} {j pos} (hx : SOk x) : DE X CL W c (.Constant (.str x) j pos) (mC (.str x.cps.toList)) := pimp pe_str fun σ H Q ⟨r, t, h, Y, S, q⟩ => q.now Y (.str x hx)
end
/-! what stands in the written part stands anywhere -/
mutual
theorem Rep.const {K : PySem.W.Frag} {H : Hp} {r : Rho} : ∀ {d : D} {v : V}, Rep K (fun _ => none) Rho.nil v d → Rep K H r v d
  | _, _, .non => .non
  | _, _, .bl b => .bl b
  | _, _, .int i => .int i
  | _, _, .str z h => .str z h
  | _, _, .tup h k => .tup (h.elim (fun ⟨o, q, _⟩ => nomatch q) .inr) (RepA.const k)
  | _, _, .lst h k => nomatch h.1
  | _, _, .scr h k => .scr (h.elim (fun q => (no_rd q.1).elim) .inr) (RepA.const k)
  | _, _, .ref h => by simp at h
  | _, _, .dead h => by simp at h
  | _, _, .exc h z l k => .exc (h.elim (fun ⟨_, _, q, _⟩ => nomatch q) .inr) z l (RepA.const k)
theorem RepA.const {K : PySem.W.Frag} {H : Hp} {r : Rho} : ∀ {ds : List D} {vs : List V}, RepA K (fun _ => none) Rho.nil vs ds → RepA K H r vs ds
  | _, _, .nil => .nil
  | _, _, .cons h k => .cons (Rep.const h) (RepA.const k)
end
section
variable {X : Cx} {CL : List XC} {W : WX} {c : Calls}
theorem de_glob {x : Str} {v : V} {u : Value} {d : D} {pos : Pos} (hg : Gl X x) (hm : X.mg x = some u) (rv : RelV v u) (rp : Rep X.K (fun _ => none) Rho.nil v d) (hd : (x == ("__debug__" : Str)) = false) : DE X CL W c (.Name x pos) (mC d) :=
  pimp (pe_glob hg hm rv hd) fun σ H Q ⟨r, t, h, Y, S, q⟩ => q.now Y rp.const

theorem da_nil : DA X CL W c [] aNil := aimp pa_nil fun σ H Q ⟨r, t, h, Y, S, q⟩ => q.now Y .nil
theorem da_cons {e : Expr} {es : List Expr} {m : M} {l : ML} (h1 : DE X CL W c e m) (h2 : DA X CL W c es l) (hs : starEach (e :: es) X.env = (false, eval e X.env) :: starEach es X.env) : DA X CL W c (e :: es) (aCons m l) :=
  aimp (pa_cons h1 h2 hs) fun σ H Q ⟨r, t, h, Y, S, q⟩ => (rd_bind Y S q).mono fun v H1 ⟨r1, h1, d, e1, Y1, S1, rv, q1⟩ => (rd_bind Y1 S1 q1).mono fun vs H2 ⟨r2, h2, ds, e2, Y2, S2, rvs, q2⟩ =>
    q2.now Y2 (.cons (rv.mono e2) rvs)
/-- what an operator's evaluation gives is no exception: a reading of values takes it -/
theorem fresh_ok {m : Bool} {ds : List D} {h : Hd} {r : Rho} {H : Hp} {σ : L2.St} {Q : VK} (q : rdK X.K CL W (relD X.K) r H σ Q (fresh m ds h)) : okK X.K (relD X.K) r H Q (fresh m ds h) := by
  unfold fresh at *
  by_cases hz : ds.length ≤ sizeLine
  · rw [if_pos hz] at *
    cases m <;> exact q
  · rw [if_neg hz] at *; exact q
theorem freshT_ok {ds : List D} {h : Hd} {r : Rho} {H : Hp} {σ : L2.St} {Q : VK} (q : rdK X.K CL W (relD X.K) r H σ Q (freshT ds h)) : okK X.K (relD X.K) r H Q (freshT ds h) := by
  unfold freshT at *
  by_cases hz : ds.length ≤ sizeLine
  · rw [if_pos hz] at *; exact q
  · rw [if_neg hz] at *; exact q
theorem pe_tupF {es : List Expr} {t : TA} {x1 pos} (h : PA X es t) : PE X (.Tuple es x1 pos) (fun σ H Q => t σ H fun xs H1 => xs.length ≤ sizeLine ∧ ∀ p o, H1 p = none → PlainT o → Q (.ref p) (upd H1 p (.frz o (.tup xs)))) := by
  refine ⟨fun pins s σ H Q I hq => ?_⟩
  refine PySem.wpAny_Tuple_spliced (thn (h.run pos pins s σ H _ I hq) fun us s1 ⟨xs, H1, I1, r, z, q⟩ => ⟨by rw [← r.length]; exact z, ?_⟩)
  exact ⟨.ref _, _, tup_laid (t' := s1.toks) I1 r z, rfl, q _ _ (I1.hok.fresh (Nat.le_refl _)) ⟨_, _, rfl⟩⟩
theorem de_tup {es : List Expr} {l : ML} {x1 pos} (h : DA X CL W c es l) : DE X CL W c (.Tuple es x1 pos) (mTup l) :=
  pimp (pe_tupF h) fun σ H Q ⟨r, t, h, Y, S, q⟩ => (rd_bind Y S q).mono fun vs H1 ⟨r1, h1, ds, e1, Y1, S1, rv, q1⟩ => by
    have q2 := freshT_ok q1
    have hz := freshT_len q2
    exact ⟨by rw [rv.len]; exact hz, fun p o n d => new_tup Y1 rv q2 n d⟩
theorem de_lst {es : List Expr} {l : ML} {pos} {b : Bool} (h : DA X CL W c es l) : DE X CL W c (.List es pos) (mLst b l) :=
  pimp (pe_lst h) fun σ H Q ⟨r, t, h, Y, S, q⟩ => (rd_bind Y S q).mono fun vs H1 ⟨r1, h1, ds, e1, Y1, S1, rv, q1⟩ => by
    have q2 := fresh_ok q1
    have hz := fresh_len q2
    exact ⟨by rw [rv.len]; exact hz, fun p n => new_shut Y1 rv q2 n⟩
/-- an operation that never raises -/
def Calm (f : D → D → Hd → Res D) : Prop := ∀ x y h c fs h', f x y h ≠ .exn c fs h'
theorem op_of {f : D → D → Hd → Res D} (hf : Calm f) {op : Value → Value → Sem Value} (ho : OpR X op (opR X.K f)) {a b : Expr} {ma mb : M} (ha : DE X CL W c a ma) (hb : DE X CL W c b mb) {σ : L2.St} {H : Hp} {Q : VK} (q : rd X.K CL W (relD X.K) c (mOp f ma mb) σ H Q) :
    tOp (opR X.K f) (rd X.K CL W (relD X.K) c ma) (rd X.K CL W (relD X.K) c mb) σ H Q := by
  obtain ⟨r, t, h, Y, S, q⟩ := q
  exact (rd_bind Y S q).mono fun v H1 ⟨r1, h1, d, e1, Y1, S1, rv, q1⟩ => (rd_bind Y1 S1 q1).mono fun u H2 ⟨r2, h2, e, e2, Y2, S2, ru, q2⟩ =>
    ⟨r2, h2, d, e, Y2, rv.mono e2, ru, q2.okK (hf _ _ _)⟩
theorem de_op {f : D → D → Hd → Res D} (hf : Calm f) {op : Operator} (ho : OpR X (binaryOp op) (opR X.K f)) {a b : Expr} {ma mb : M} (ha : DE X CL W c a ma) (hb : DE X CL W c b mb) {pos} : DE X CL W c (.BinOp a op b pos) (mOp f ma mb) :=
  pimp (pe_op ho ha hb) fun _ _ _ q => op_of hf ho ha hb q
theorem de_cmp {f : D → D → Hd → Res D} (hf : Calm f) {op : CmpOp} (ho : OpR X (compareOp op) (opR X.K f)) {a b : Expr} {ma mb : M} (ha : DE X CL W c a ma) (hb : DE X CL W c b mb) (hm : behindInMarks op b = false) {pos} : DE X CL W c (.Compare a [op] [b] pos) (mOp f ma mb) :=
  pimp (pe_cmpR ho ha hb hm) fun _ _ _ q => op_of hf ho ha hb q
theorem dBl_rd {r : Rho} {H : Hp} {σ : L2.St} {h : Hd} {Q : Bool → Hp → Prop} {d : D} {v : V} {K : PySem.W.Frag} (Y : R K r h H) (rv : Rep K H r v d) (q : rdK K CL W relB r H σ Q (dBl d h)) : ∃ k, v = .bl k ∧ Q k H := by
  unfold dBl at q
  split at q
  · cases rv; exact ⟨_, rfl, q.now Y rfl⟩
  · exact q.elim
/-- a comparison as a test -/
theorem dt_cmp {m : M} {a : Expr} {op : CmpOp} {b : Expr} {pos} {t : TE} (h : PT X (.Compare a [op] [b] pos) (tTest t)) (i : ∀ σ H Q, rd X.K CL W (relD X.K) c m σ H Q → t σ H Q) : DT X CL W c (.Compare a [op] [b] pos) (tCmp m) :=
  timp h fun σ H Q ⟨r, t, h, Y, S, q⟩ => i _ _ _ ((rd_bind Y S q).mono fun v H1 ⟨r1, h1, d, e1, Y1, S1, rv, q1⟩ => dBl_rd Y1 rv q1)
theorem dt_op {f : D → D → Hd → Res D} (hf : Calm f) {op : CmpOp} (ho : OpR X (compareOp op) (opR X.K f)) {a b : Expr} {ma mb : M} (ha : DE X CL W c a ma) (hb : DE X CL W c b mb) (hm : behindInMarks op b = false) {pos} : DT X CL W c (.Compare a [op] [b] pos) (tCmp (mOp f ma mb)) :=
  dt_cmp (pt_cmpR ho ha hb hm) fun _ _ _ q => op_of hf ho ha hb q
theorem chain_of {f g : D → D → Hd → Res D} (hf : Calm f) (hg : Calm g) {a b e : Expr} {ma mb me : M} {σ : L2.St} {H : Hp} {Q : VK} (q : rd X.K CL W (relD X.K) c (mChain f g ma mb me) σ H Q) :
    tChain (opR X.K f) (opR X.K g) (rd X.K CL W (relD X.K) c ma) (rd X.K CL W (relD X.K) c mb) (rd X.K CL W (relD X.K) c me) σ H Q := by
  obtain ⟨r, t, h, Y, S, q⟩ := q
  refine (rd_bind Y S q).mono fun v H1 ⟨r1, h1, d, e1, Y1, S1, rv, q1⟩ => (rd_bind Y1 S1 q1).mono fun u H2 ⟨r2, h2, e, e2, Y2, S2, ru, q2⟩ => ?_
  refine ⟨r2, h2, d, e, Y2, rv.mono e2, ru, ?_⟩
  cases e3 : f d e h2 with
  | exn c fs h' => exact (hf _ _ _ _ _ _ e3).elim
  | stuck => rw [e3] at q2; exact q2.elim
  | ok z h3 =>
    rw [e3] at q2
    intro w r3 H3 x3 Y3 rw3
    have q3 : rdK X.K CL W (relD X.K) r2 H2 σ Q ((dBl z h3).bind fun k h4 => if k = true then (me c t h4).bind fun w h5 => g e w h5 else .ok (.bl false) h4) := q2
    unfold dBl at q3
    split at q3
    · rename_i k
      cases rw3
      refine ⟨k, rfl, ?_⟩
      have q4 : rdK X.K CL W (relD X.K) r3 H3 σ Q (if k = true then (me c t h3).bind fun w h5 => g e w h5 else .ok (.bl false) h3) := q3.ext x3
      cases k with
      | true =>
        rw [if_pos rfl] at q4 ⊢
        exact (rd_bind Y3 (S2.mono x3) q4).mono fun w H4 ⟨r4, h4, d4, e4, Y4, S4, rv4, q5⟩ => ⟨r4, h4, e, d4, Y4, (ru.mono x3).mono e4, rv4, q5.okK (hg _ _ _)⟩
      | false =>
        rw [if_neg (by decide)] at q4 ⊢
        exact q4.now Y3 (.bl false)
    · exact q3.elim
theorem de_chain {f g : D → D → Hd → Res D} (hf : Calm f) (hg : Calm g) {op op' : CmpOp} (ho : OpR X (compareOp op) (opR X.K f)) (ho' : OpR X (compareOp op') (opR X.K g)) {a b e : Expr} {ma mb me : M} (ha : DE X CL W c a ma) (hb : DE X CL W c b mb) (he : DE X CL W c e me)
    (hm : lastMarks [op, op'] [b, e] = false) {pos} : DE X CL W c (.Compare a [op, op'] [b, e] pos) (mChain f g ma mb me) :=
  pimp (pe_chain ho ho' ha hb he hm) fun _ _ _ q => chain_of (a := a) (b := b) (e := e) hf hg q
theorem dt_chain {f g : D → D → Hd → Res D} (hf : Calm f) (hg : Calm g) {op op' : CmpOp} (ho : OpR X (compareOp op) (opR X.K f)) (ho' : OpR X (compareOp op') (opR X.K g)) {a b e : Expr} {ma mb me : M} (ha : DE X CL W c a ma) (hb : DE X CL W c b mb) (he : DE X CL W c e me)
    (hm : lastMarks [op, op'] [b, e] = false) {pos} : DT X CL W c (.Compare a [op, op'] [b, e] pos) (tCmp (mChain f g ma mb me)) :=
  timp (pt_chain ho ho' ha hb he hm) fun σ H Q ⟨r, t, h, Y, S, q⟩ => chain_of (a := a) (b := b) (e := e) hf hg ((rd_bind Y S q).mono fun v H1 ⟨r1, h1, d, e1, Y1, S1, rv, q1⟩ => dBl_rd Y1 rv q1)

/-! ### truth -/
theorem dTrue_calm {x : D} {h : Hd} {c : Nat} {fs : List D} {h' : Hd} : dTrue x h ≠ .exn c fs h' := by
  unfold dTrue
  split <;> try (intro z; cases z)
  split <;> (intro z; cases z)
theorem dTrue_rd {r : Rho} {H : Hp} {h : Hd} {d : D} {v : V} {K : PySem.W.Frag} {k : Bool} {h' : Hd} (Y : R K r h H) (rv : Rep K H r v d) (e : dTrue d h = .ok k h') : h' = h ∧ TruV K v H k := by
  have emp : ∀ {vs : List V} {ds : List D}, RepA K H r vs ds → ds.isEmpty = vs.isEmpty := fun k => by cases k <;> rfl
  unfold dTrue at e
  split at e
  · cases e; cases rv; exact ⟨rfl, rfl⟩
  · cases e; cases rv; exact ⟨rfl, rfl⟩
  · cases e; cases rv; exact ⟨rfl, rfl⟩
  · cases e
    obtain ⟨x, rfl, rfl, ox⟩ := rep_str rv
    refine ⟨rfl, ?_, ?_⟩
    · have := ox.2
      show x.cps.size ≤ _
      rw [sizeLine_eq]; omega
    · show (!x.cps.toList.isEmpty) = ((x.cps.size : Int) != 0)
      rw [← Array.length_toList]
      cases x.cps.toList with
      | nil => rfl
      | cons a l => simp; omega
  · cases e
    cases rv with
    | tup f k => exact ⟨rfl, .inr (.inl ⟨_, f.seq, by rw [emp k]⟩)⟩
  · cases e
    cases rv with
    | lst f k => exact ⟨rfl, .inl ⟨_, f.seq, by rw [emp k]⟩⟩
  · cases e
    cases rv with
    | scr f k => exact ⟨rfl, .inl ⟨_, f.seq, by rw [emp k]⟩⟩
  · rename_i i
    split at e
    · rename_i xs e1
      cases e
      obtain ⟨a, vs, rfl, h1, h2⟩ := items_at Y rv (xs := xs) (by unfold D.items?; simp only [e1])
      exact ⟨rfl, .inl ⟨_, .inl (.inl h1), by rw [emp h2]⟩⟩
    · cases e
  · cases e
theorem tru_of {r : Rho} {H : Hp} {h : Hd} {d : D} {v : V} {K : PySem.W.Frag} {β α : Type} {rel : Rl β α} {σ : L2.St} {Q : β → Hp → Prop} {f : Bool → Hd → Res α} (Y : R K r h H) (rv : Rep K H r v d) (q : rdK K CL W rel r H σ Q ((dTrue d h).bind f)) : ∃ k, TruV K v H k ∧ rdK K CL W rel r H σ Q (f k h) := by
  cases e : dTrue d h with
  | exn c fs h' => exact (dTrue_calm e).elim
  | stuck => rw [e] at q; exact q.elim
  | ok k h' =>
    obtain ⟨rfl, tv⟩ := dTrue_rd Y rv e
    rw [e] at q
    exact ⟨k, tv, q⟩
theorem tru_of' {r : Rho} {H : Hp} {h : Hd} {d : D} {v : V} {K : PySem.W.Frag} {σ : L2.St} {Q : Bool → Hp → Prop} (Y : R K r h H) (rv : Rep K H r v d) (q : rdK K CL W relB r H σ Q (dTrue d h)) : ∃ k, TruV K v H k ∧ Q k H := by
  cases e : dTrue d h with
  | exn c fs h' => exact (dTrue_calm e).elim
  | stuck => rw [e] at q; exact q.elim
  | ok k h' =>
    obtain ⟨rfl, tv⟩ := dTrue_rd Y rv e
    rw [e] at q
    exact ⟨k, tv, q.now Y rfl⟩
theorem dt_val {e : Expr} {m : M} (h : DE X CL W c e m) (he : ∀ whole, isTrue e X.env whole = (do let v ← whole; standAt e.pos; holding [v] (truthy v))) : DT X CL W c e (tVal m) :=
  timp (pt_truth h he) fun σ H Q ⟨r, t, h, Y, S, q⟩ => (rd_bind Y S q).mono fun v H1 ⟨r1, h1, d, e1, Y1, S1, rv, q1⟩ => tru_of' Y1 rv q1
theorem de_not {e : Expr} {m : M} {pos} (h : DE X CL W c e m) : DE X CL W c (.UnaryOp .Not e pos) (mUn dNot m) :=
  pimp (pe_notT h) fun σ H Q ⟨r, t, h, Y, S, q⟩ => (rd_bind Y S q).mono fun v H1 ⟨r1, h1, d, e1, Y1, S1, rv, q1⟩ => by
    obtain ⟨k, tv, q2⟩ := tru_of Y1 rv q1
    exact ⟨k, tv, q2.now Y1 (.bl _)⟩
theorem dt_not {e : Expr} {m : MB} {pos} (h : DT X CL W c e m) : DT X CL W c (.UnaryOp .Not e pos) (tNot m) :=
  timp (pt_not h) fun σ H Q ⟨r, t, h, Y, S, q⟩ => (rd_bind (rel1 := relB) Y S q).mono fun v H1 ⟨r1, h1, d, e1, Y1, S1, rv, q1⟩ => by
    have rv : v = d := rv
    subst rv
    exact q1.now Y1 rfl
theorem dw_one {e : Expr} {m : MB} {pos} (h : DT X CL W c e m) : DW X CL W c (.BoolOp .And [e] pos) m := pw_and1 h
theorem dw_one' {e : Expr} {m : MB} {pos} (h : DT X CL W c e m) : DW X CL W c (.BoolOp .Or [e] pos) m := pw_or1 h
theorem dw_and {a b : Expr} {rest : List Expr} {ma mb : MB} {pos} (h1 : DT X CL W c a ma) (h2 : DW X CL W c (.BoolOp .And (b :: rest) pos) mb) : DW X CL W c (.BoolOp .And (a :: b :: rest) pos) (tAnd ma mb) :=
  wimp (pw_and h1 h2) fun σ H Q ⟨r, t, h, Y, S, q⟩ => (rd_bind (rel1 := relB) Y S q).mono fun v H1 ⟨r1, h1, d, e1, Y1, S1, rv, q1⟩ => by
    have rv : v = d := rv
    subst rv
    cases v with
    | true => rw [if_pos rfl] at q1 ⊢; exact ⟨r1, t, h1, Y1, S1, q1⟩
    | false => rw [if_neg (by decide)] at q1 ⊢; exact q1.now Y1 rfl
theorem dw_or {a b : Expr} {rest : List Expr} {ma mb : MB} {pos} (h1 : DT X CL W c a ma) (h2 : DW X CL W c (.BoolOp .Or (b :: rest) pos) mb) : DW X CL W c (.BoolOp .Or (a :: b :: rest) pos) (tOr ma mb) :=
  wimp (pw_or h1 h2) fun σ H Q ⟨r, t, h, Y, S, q⟩ => (rd_bind (rel1 := relB) Y S q).mono fun v H1 ⟨r1, h1, d, e1, Y1, S1, rv, q1⟩ => by
    have rv : v = d := rv
    subst rv
    cases v with
    | true => rw [if_pos rfl] at q1 ⊢; exact q1.now Y1 rfl
    | false => rw [if_neg (by decide)] at q1 ⊢; exact ⟨r1, t, h1, Y1, S1, q1⟩
theorem de_one {e : Expr} {op} {m : M} {pos} (h : DE X CL W c e m) : DE X CL W c (.BoolOp op [e] pos) m := pe_one h
theorem de_and {a b : Expr} {rest : List Expr} {ma mb : M} {pos} (h1 : DE X CL W c a ma) (h2 : DE X CL W c (.BoolOp .And (b :: rest) pos) mb) : DE X CL W c (.BoolOp .And (a :: b :: rest) pos) (mAnd ma mb) :=
  pimp (pe_andT h1 h2) fun σ H Q ⟨r, t, h, Y, S, q⟩ => (rd_bind Y S q).mono fun v H1 ⟨r1, h1, d, e1, Y1, S1, rv, q1⟩ => by
    obtain ⟨k, tv, q2⟩ := tru_of Y1 rv q1
    refine ⟨k, tv, ?_⟩
    cases k with
    | true => rw [if_pos rfl] at q2 ⊢; exact ⟨r1, t, h1, Y1, S1, q2⟩
    | false => rw [if_neg (by decide)] at q2 ⊢; exact q2.now Y1 rv
theorem de_or {a b : Expr} {rest : List Expr} {ma mb : M} {pos} (h1 : DE X CL W c a ma) (h2 : DE X CL W c (.BoolOp .Or (b :: rest) pos) mb) : DE X CL W c (.BoolOp .Or (a :: b :: rest) pos) (mOr ma mb) :=
  pimp (pe_orT h1 h2) fun σ H Q ⟨r, t, h, Y, S, q⟩ => (rd_bind Y S q).mono fun v H1 ⟨r1, h1, d, e1, Y1, S1, rv, q1⟩ => by
    obtain ⟨k, tv, q2⟩ := tru_of Y1 rv q1
    refine ⟨k, tv, ?_⟩
    cases k with
    | true => rw [if_pos rfl] at q2 ⊢; exact q2.now Y1 rv
    | false => rw [if_neg (by decide)] at q2 ⊢; exact ⟨r1, t, h1, Y1, S1, q2⟩
theorem de_if {k a b : Expr} {mk : MB} {ma mb : M} {pos} (h0 : DT X CL W c k mk) (h1 : DE X CL W c a ma) (h2 : DE X CL W c b mb) : DE X CL W c (.IfExp k a b pos) (mIf mk ma mb) :=
  pimp (pe_ifExp h0 h1 h2) fun σ H Q ⟨r, t, h, Y, S, q⟩ => (rd_bind (rel1 := relB) Y S q).mono fun v H1 ⟨r1, h1, d, e1, Y1, S1, rv, q1⟩ => by
    have rv : v = d := rv
    subst rv
    cases v with
    | true => rw [if_pos rfl] at q1 ⊢; exact ⟨r1, t, h1, Y1, S1, q1⟩
    | false => rw [if_neg (by decide)] at q1 ⊢; exact ⟨r1, t, h1, Y1, S1, q1⟩
theorem de_neg {a : Expr} {m : M} {pos} (h : DE X CL W c a m) : DE X CL W c (.UnaryOp .USub a pos) (mUn dNeg m) :=
  pimp (pe_un un_neg h) fun σ H Q ⟨r, t, h, Y, S, q⟩ => (rd_bind Y S q).mono fun v H1 ⟨r1, h1, d, e1, Y1, S1, rv, q1⟩ => by
    unfold dNeg at q1
    split at q1
    · cases rv; exact ⟨_, rfl, q1.now Y1 (.int _)⟩
    · exact q1.elim
end
end Ev

/-! Ev5: items, slices, calls. -/
namespace Ev
open PySem L2
section
variable {X : Cx} {CL : List XC} {W : WX} {c : Calls}
theorem see_lst {K : PySem.W.Frag} {H : Hp} {r : Rho} {h : Hd} {v : V} {d : D} {ys : List D} (Y : R K r h H) (q : Rep K H r v d) (e : d.see h = .lst ys) : ∃ a vs, v = .ref a ∧ H a = some (.lst vs) ∧ RepA K H r vs ys := items_at Y q (see_eq_ref e)
theorem see_same {h : Hd} {d e : D} (q : d.see h = e) (n : ∀ ys, e ≠ .lst ys) : (∃ i, d = .ref i ∧ e = .ref i) ∨ d = e := by
  cases d with
  | ref i =>
    have se : (D.ref i).see h = match h[i]? with | some (.lst xs) => D.lst xs | _ => D.ref i := rfl
    rw [se] at q
    split at q
    · exact (n _ q.symm).elim
    · exact .inl ⟨i, rfl, q.symm⟩
  | _ => exact .inr q
theorem see_scr {K : PySem.W.Frag} {H : Hp} {r : Rho} {h : Hd} {v : V} {d : D} {ys : List D} (q : Rep K H r v d) (e : d.see h = .scr ys) : ∃ a vs, v = .ref a ∧ SqL K H a vs ∧ RepA K H r vs ys := by
  rcases see_same e (fun _ z => by cases z) with ⟨i, _, z⟩ | rfl
  · cases z
  · cases q with
    | scr f k => exact ⟨_, _, rfl, f.seq, k⟩
theorem see_tup {K : PySem.W.Frag} {H : Hp} {r : Rho} {h : Hd} {v : V} {d : D} {ys : List D} (q : Rep K H r v d) (e : d.see h = .tup ys) : ∃ a vs, v = .ref a ∧ FzT K H r a vs ∧ RepA K H r vs ys := by
  rcases see_same e (fun _ z => by cases z) with ⟨i, _, z⟩ | rfl
  · cases z
  · cases q with
    | tup f k => exact ⟨_, _, rfl, f, k⟩
theorem see_str {K : PySem.W.Frag} {H : Hp} {r : Rho} {h : Hd} {v : V} {d : D} {ys : List Nat} (q : Rep K H r v d) (e : d.see h = .str ys) : ∃ x : Str, v = .str x ∧ x.cps.toList = ys ∧ SOk x := by
  rcases see_same e (fun _ z => by cases z) with ⟨i, _, z⟩ | rfl
  · cases z
  · exact rep_str q
theorem ixI_eq (n : Nat) (i : Int) : ixN n i = ixI n i := rfl
theorem at_rep {K : PySem.W.Frag} {H : Hp} {r : Rho} {vs : List V} {ds : List D} {i : Int} {d : D} (k : RepA K H r vs ds) (e : (ixI ds.length i).bind (fun j => ds[j]?) = some d) : ∃ v, atI vs i = some v ∧ Rep K H r v d := by
  unfold atI
  rw [k.len, ixI_eq]
  cases q : ixI ds.length i with
  | none => rw [q] at e; cases e
  | some j =>
    rw [q] at e
    exact k.get' e
theorem strOk_get {x : Str} {j : Nat} {ch : Nat} (h : PySem.PyData.strOk x = true) (e : x.cps.toList[j]? = some ch) : PySem.PyData.strOk ⟨#[ch]⟩ = true := by
  unfold PySem.PyData.strOk at h ⊢
  rw [Array.all_eq_true'] at h
  have m : ch ∈ x.cps := by
    have := List.mem_of_getElem? e
    simpa using this
  have z := h ch m
  simpa using z
theorem sOk_one {x : Str} {j : Nat} {ch : Nat} (h : SOk x) (e : x.cps.toList[j]? = some ch) : SOk ⟨#[ch]⟩ := ⟨strOk_get h.1 e, by simp⟩
theorem ix_S : IxR X (opR X.K dIxS) := by
  intro value slice pins s σ H x y v u Q I rx ry q hs
  obtain ⟨r, h, d, e, Y, hd, he, q⟩ := q
  unfold dIxS at q
  split at q
  · rename_i i
    cases he
    split at q
    · rename_i xs e1
      split at q
      · rename_i z e2
        obtain ⟨a, vs, rfl, h1, k⟩ := see_lst Y hd e1
        obtain ⟨w, ew, rw'⟩ := at_rep k e2
        exact ix_list value slice pins s σ H _ _ v u Q I rx ry ⟨a, vs, i, w, rfl, rfl, .inl (.inl h1), ew, q.now Y rw'⟩ hs
      · exact q.elim
    · rename_i xs e1
      split at q
      · rename_i z e2
        obtain ⟨a, vs, rfl, h1, k⟩ := see_scr hd e1
        obtain ⟨w, ew, rw'⟩ := at_rep k e2
        exact ix_list value slice pins s σ H _ _ v u Q I rx ry ⟨a, vs, i, w, rfl, rfl, h1, ew, q.now Y rw'⟩ hs
      · exact q.elim
    · rename_i xs e1
      split at q
      · rename_i z e2
        obtain ⟨a, vs, rfl, h1, k⟩ := see_tup hd e1
        obtain ⟨w, ew, rw'⟩ := at_rep k e2
        exact ix_tup value slice pins s σ H _ _ v u Q I rx ry ⟨a, vs, i, w, rfl, rfl, h1.seq, ew, q.now Y rw'⟩ hs
      · exact q.elim
    · rename_i xs e1
      split at q
      · rename_i ch e2
        obtain ⟨x, rfl, rfl, ox⟩ := see_str hd e1
        refine ix_str value slice pins s σ H _ _ v u Q I rx ry ⟨x, i, ch, rfl, rfl, ?_, ?_, ?_⟩ hs
        · have := ox.2
          show x.cps.size ≤ _
          rw [sizeLine_eq]; omega
        · unfold atI; rw [ixI_eq]; exact e2
        · cases q3 : ixI x.cps.toList.length i with
          | none => rw [q3] at e2; cases e2
          | some j =>
            rw [q3] at e2
            have rp : Rep X.K H r (.str ⟨#[ch]⟩) (.str [ch]) := .str ⟨#[ch]⟩ (sOk_one ox e2)
            exact q.now Y rp
      · exact q.elim
    · exact q.elim
  · exact q.elim
theorem ix_E (hu : X.A.units + 560 < cLine) : IxR X (opR X.K dIx) := by
  intro value slice pins s σ H x y v u Q I rx ry ⟨r, h, d, e, Y, hd, he, q⟩ hs
  unfold dIx at q
  split at q
  · rename_i es e1
    obtain ⟨ko, q⟩ := ok_of q
    obtain ⟨a, rfl, o, g, go⟩ := get_at Y hd e1 he ko
    cases rx
    rcases go with ⟨x, w, e2, e3, rw'⟩ | ⟨e2, e3⟩
    · subst e2
      rw [e3] at q
      refine PyProof.Rows.tail_any (dict_typeIs I g) PySem.F.slot_dict_getitem.lookup (d_getItem (by omega) I g ry fun w' s3 I3 r3 => ⟨w, H, I3, r3, q.now Y rw'⟩) hs
    · rw [e3] at q; exact q.elim
  · exact ix_S value slice pins s σ H x y v u Q I rx ry ⟨r, h, d, e, Y, hd, he, q⟩ hs
theorem dIx_calm : Calm dIx := by
  intro x y h c fs h' e
  unfold dIx dIxS at e
  repeat' split at e
  all_goals cases e
theorem de_ix {a b : Expr} {ma mb : M} {pos} (hu : X.A.units + 560 < cLine) (ha : DE X CL W c a ma) (hb : DE X CL W c b mb) (hs : PlainIx b) : DE X CL W c (.Subscript a b pos) (mOp dIx ma mb) :=
  pimp (pe_ix (ix_E hu) ha hb hs) fun _ _ _ q => by
    obtain ⟨r, t, h, Y, S, q⟩ := q
    exact (rd_bind Y S q).mono fun v H1 ⟨r1, h1, d, e1, Y1, S1, rv, q1⟩ => (rd_bind Y1 S1 q1).mono fun u H2 ⟨r2, h2, e, e2, Y2, S2, ru, q2⟩ => ⟨r2, h2, d, e, Y2, rv.mono e2, ru, q2.okK (dIx_calm _ _ _)⟩

/-! ### slices -/
theorem cutI_eq (n d : Nat) (o : Option Int) : HT.sIx n d o = cutI n d o := by cases o <;> rfl
theorem cut_rep {K : PySem.W.Frag} {H : Hp} {r : Rho} {vs : List V} {ds : List D} (k : RepA K H r vs ds) (lo hi : Option Int) : RepA K H r (cutV vs lo hi) (cutL ds lo hi) := by
  unfold cutV cutL
  rw [cutI_eq, cutI_eq, k.len]
  exact (k.drop _).take _
theorem cutL_le {α : Type} (xs : List α) (lo hi : Option Int) : (cutL xs lo hi).length ≤ xs.length := by
  unfold cutL
  rw [List.length_take, List.length_drop]; omega
theorem cutL_mem {α : Type} {xs : List α} {lo hi : Option Int} {x : α} (h : x ∈ cutL xs lo hi) : x ∈ xs := List.mem_of_mem_drop (List.mem_of_mem_take h)
theorem cutL_whole {α : Type} {xs : List α} {lo hi : Option Int} (h : cutI xs.length 0 lo = 0 ∧ cutI xs.length xs.length hi = xs.length) : cutL xs lo hi = xs := by
  unfold cutL
  rw [h.1, h.2]; simp
def slR (K : PySem.W.Frag) (m : Bool) : V → Option Int → Option Int → Hp → VK → Prop := fun x lo hi H Q => ∃ r h d, R K r h H ∧ Rep K H r x d ∧ okK K (relD K) r H Q (dCut m d lo hi h)
theorem sl_E {m : Bool} : SlR X (slR X.K m) := by
  intro pins s σ H x v vl vu lo hi sl Q I rx hs pl pu q
  obtain ⟨r, h, d, Y, hd, q⟩ := q
  unfold dCut at q
  split at q
  · rename_i xs e1
    obtain ⟨a, vs, rfl, h1, k⟩ := see_lst Y hd e1
    exact sl_list pins s σ H _ v vl vu lo hi sl Q I rx hs pl pu ⟨a, vs, rfl, .inl (.inl h1), fun p n => new_shut Y (cut_rep k lo hi) q n⟩
  · rename_i xs e1
    obtain ⟨a, vs, rfl, h1, k⟩ := see_scr hd e1
    exact sl_list pins s σ H _ v vl vu lo hi sl Q I rx hs pl pu ⟨a, vs, rfl, h1, fun p n => new_shut Y (cut_rep k lo hi) q n⟩
  · rename_i xs e1
    obtain ⟨a, vs, rfl, h1, k⟩ := see_tup hd e1
    cases rx
    obtain ⟨its, rr, ht, hz⟩ := I.tuple h1.seq
    have hlen : its.toArray.size = vs.length := by rw [List.size_toArray]; exact rr.length.symm
    refine ⟨"tuple", _, PyProof.Rows.slot_tuple_getitem.lookup, ht.typeIs, ?_⟩
    by_cases hw : HT.sIx vs.length 0 lo = 0 ∧ HT.sIx vs.length vs.length hi = vs.length
    · refine L2.getItem_tuple_whole ht hs pl pu (by rw [hlen]; exact hw) ⟨.ref a, H, I, rfl, ?_⟩
      rw [cutI_eq, cutI_eq, k.len] at hw
      rw [cutL_whole hw] at q
      exact q.now Y (.tup h1 k)
    · refine HT.getItem_tuple_cut ht hs pl pu (by rw [hlen]; exact hw) ?_ (by rw [hlen]; exact hz)
      rw [hlen]
      refine ⟨.ref _, _, tup_laid (t' := s.toks) I ((rr.drop (HT.sIx vs.length 0 lo)).take (HT.sIx vs.length vs.length hi - HT.sIx vs.length 0 lo)) (Nat.le_trans (cutV_length vs lo hi) hz), rfl, ?_⟩
      have hq : okK X.K (relD X.K) r H Q (freshT (cutL xs lo hi) h) := by
        unfold freshT
        rw [if_pos (Nat.le_trans (cutL_le xs lo hi) (by rw [← k.len]; exact hz))]
        exact q
      exact new_tup Y (cut_rep k lo hi) hq (I.hok.fresh (Nat.le_refl _)) ⟨_, _, rfl⟩
  · rename_i xs e1
    obtain ⟨x, rfl, rfl, ox⟩ := see_str hd e1
    refine sl_str pins s σ H _ v vl vu lo hi sl Q I rx hs pl pu ⟨x, rfl, ?_, ?_⟩
    · have := ox.2
      show x.cps.size ≤ _
      rw [sizeLine_eq]; omega
    · have ec : (cutS x lo hi).cps.toList = cutL x.cps.toList lo hi := by
        unfold cutS cutL
        have e3 : x.length = x.cps.toList.length := by rw [Array.length_toList]; rfl
        rw [cutI_eq, cutI_eq, e3]
      have ok : SOk (cutS x lo hi) := by
        refine ⟨?_, ?_⟩
        · have h0 := ox.1
          unfold PySem.PyData.strOk at h0 ⊢
          rw [Array.all_eq_true'] at h0 ⊢
          intro ch m
          have m1 : ch ∈ (cutS x lo hi).cps.toList := by simpa using m
          rw [ec] at m1
          exact h0 ch (by simpa using cutL_mem m1)
        · rw [← Array.length_toList, ec]
          exact Nat.le_trans (cutL_le _ _ _) (by rw [Array.length_toList]; exact ox.2)
      have rp : Rep X.K H r (.str (cutS x lo hi)) (.str (cutL x.cps.toList lo hi)) := by rw [← ec]; exact .str _ ok
      exact q.now Y rp
  · exact q.elim
theorem dCut_ok {m : Bool} {d : D} {lo hi : Option Int} {h : Hd} {r : Rho} {H : Hp} {σ : L2.St} {Q : VK} (q : rdK X.K CL W (relD X.K) r H σ Q (dCut m d lo hi h)) : okK X.K (relD X.K) r H Q (dCut m d lo hi h) := by
  unfold dCut at *
  split at q
  · exact fresh_ok q
  · exact fresh_ok q
  · exact q
  · exact q
  · exact q
abbrev relO : Rl (Option Int) (Option Int) := fun _ _ v d => v = d
abbrev DP (X : Cx) (CL : List XC) (W : WX) (c : Calls) (e : Option Expr) (m : Calls → Tau → Hd → Res (Option Int)) : Prop := PO X e (rd X.K CL W relO c m)
theorem dp_no : DP X CL W c none pNo := ⟨fun pins s σ H Q I ⟨r, t, h, Y, S, q⟩ => po_none.run pins s σ H Q I (q.now Y rfl)⟩
theorem dp_yes {e : Expr} {m : M} (h : DE X CL W c e m) : DP X CL W c (some e) (pYes m) := ⟨fun pins s σ H Q I ⟨r, t, h0, Y, S, q⟩ =>
  (po_some h).run pins s σ H Q I ((rd_bind Y S q).mono fun v H1 ⟨r1, h1, d, e1, Y1, S1, rv, q1⟩ => by
    unfold dPart at q1
    split at q1
    · cases rv; exact ⟨_, rfl, q1.now Y1 rfl⟩
    · exact q1.elim)⟩
theorem de_cut {m : Bool} {e : Expr} {lo hi : Option Expr} {me : M} {ml mh : Calls → Tau → Hd → Res (Option Int)} {p2 pos} (h : DE X CL W c e me) (hl : DP X CL W c lo ml) (hh : DP X CL W c hi mh) :
    DE X CL W c (.Subscript e (.Slice lo hi none p2) pos) (mCut m me ml mh) :=
  pimp (pe_slice (sl_E (m := m)) h hl hh) fun σ H Q ⟨r, t, h, Y, S, q⟩ => (rd_bind Y S q).mono fun v H1 ⟨r1, h1, d, e1, Y1, S1, rv, q1⟩ =>
    (rd_bind (rel1 := relO) Y1 S1 q1).mono fun l H2 ⟨r2, h2, l', e2, Y2, S2, rl, q2⟩ => (rd_bind (rel1 := relO) Y2 S2 q2).mono fun u H3 ⟨r3, h3, u', e3, Y3, S3, ru, q3⟩ => by
      have rl : l = l' := rl
      have ru : u = u' := ru
      subst rl ru
      exact ⟨r3, h3, d, Y3, (rv.mono e2).mono e3, dCut_ok q3⟩

/-! ### is None -/
theorem isN_of {r : Rho} {H : Hp} {h : Hd} {d : D} {v : V} {σ : L2.St} {Q : VK} {n : Bool} (Y : R X.K r h H) (rv : Rep X.K H r v d) (q : rdK X.K CL W (relD X.K) r H σ Q (dIsN n d h)) : Q (.bl (n != decide (v = .non))) H := by
  have no : ∀ {k : Bool}, rdK X.K CL W (relD X.K) r H σ Q (.ok (.bl n) h) → v ≠ .non → Q (.bl (n != decide (v = .non))) H := fun q ne => by
    rw [decide_eq_false ne]
    have e : (n != false) = n := by cases n <;> rfl
    rw [e]
    exact q.now Y (.bl n)
  unfold dIsN at q
  split at q
  · cases rv
    have e : (n != decide (V.non = V.non)) = !n := by cases n <;> rfl
    rw [e]
    exact q.now Y (.bl _)
  · rename_i i
    have live : (∃ xs, h[i]? = some (.lst xs)) ∨ (∃ kvs, h[i]? = some (.dict kvs)) → v ≠ .non := fun z e => by
      subst e
      cases rv with
      | dead f =>
        have := Y.dead _ f
        rcases z with ⟨_, z⟩ | ⟨_, z⟩ <;> (rw [this] at z; cases z)
    split at q
    · rename_i xs e; exact no (k := n) q (live (.inl ⟨_, e⟩))
    · rename_i xs e; exact no (k := n) q (live (.inr ⟨_, e⟩))
    · exact q.elim
  · rename_i x n1 n2
    refine no (k := n) q fun e => ?_
    subst e
    cases rv with
    | non => exact n1 rfl
    | dead f => exact n2 _ rfl
theorem is_of {n : Bool} {op : CmpOp} {m : M} {a : Expr} (h : DE X CL W c a m) : ∀ σ H Q, rd X.K CL W (relD X.K) c (mUn (dIsN n) m) σ H Q → rd X.K CL W (relD X.K) c m σ H fun x H1 => Q (.bl (n != decide (x = .non))) H1 :=
  fun σ H Q ⟨r, t, h, Y, S, q⟩ => (rd_bind Y S q).mono fun v H1 ⟨r1, h1, d, e1, Y1, S1, rv, q1⟩ => isN_of Y1 rv q1
theorem de_isN {m : M} {a : Expr} {j p1 pos} (h : DE X CL W c a m) : DE X CL W c (.Compare a [.Is] [.Constant .none j p1] pos) (mUn (dIsN false) m) :=
  pimp (pe_cmp (pc_isN h) rfl) fun σ H Q q => (is_of (op := .Is) h σ H Q q).mono fun v H1 q => by
    have e : (false != decide (v = .non)) = decide (v = .non) := by cases decide (v = .non) <;> rfl
    rw [e] at q; exact q
theorem de_notN {m : M} {a : Expr} {j p1 pos} (h : DE X CL W c a m) : DE X CL W c (.Compare a [.IsNot] [.Constant .none j p1] pos) (mUn (dIsN true) m) :=
  pimp (pe_cmp (pc_notN h) rfl) fun σ H Q q => (is_of (op := .Is) h σ H Q q).mono fun v H1 q => by
    have e : (true != decide (v = .non)) = !decide (v = .non) := by cases decide (v = .non) <;> rfl
    rw [e] at q; exact q
theorem dt_isN {m : M} {a : Expr} {j p1 pos} (h : DE X CL W c a m) : DT X CL W c (.Compare a [.Is] [.Constant .none j p1] pos) (tCmp (mUn (dIsN false) m)) :=
  timp (pt_cmp (pc_isN h) rfl) fun σ H Q ⟨r, t, h0, Y, S, q⟩ => (is_of (n := false) (op := .Is) h σ H _ ((rd_bind (rel1 := relD X.K) Y S q).mono fun v H1 ⟨r1, h1, d, e1, Y1, S1, rv, q1⟩ => dBl_rd Y1 rv q1)).mono fun v H1 q => by
    have e : (false != decide (v = .non)) = decide (v = .non) := by cases decide (v = .non) <;> rfl
    rw [e] at q; exact q
theorem dt_notN {m : M} {a : Expr} {j p1 pos} (h : DE X CL W c a m) : DT X CL W c (.Compare a [.IsNot] [.Constant .none j p1] pos) (tCmp (mUn (dIsN true) m)) :=
  timp (pt_cmp (pc_notN h) rfl) fun σ H Q ⟨r, t, h0, Y, S, q⟩ => (is_of (n := true) (op := .Is) h σ H _ ((rd_bind (rel1 := relD X.K) Y S q).mono fun v H1 ⟨r1, h1, d, e1, Y1, S1, rv, q1⟩ => dBl_rd Y1 rv q1)).mono fun v H1 q => by
    have e : (true != decide (v = .non)) = !decide (v = .non) := by cases decide (v = .non) <;> rfl
    rw [e] at q; exact q
end
end Ev

/-! Ev6: targets, iterators, loops, comprehensions. -/
namespace Ev
open PySem L2

/-! ### targets -/
inductive Tg where
  | nm (i : Nat) | tp (is : List Nat)
def setAll : Tau → List Nat → List D → Tau
  | t, i :: is, d :: ds => setAll (t.set i (some d)) is ds
  | t, _, _ => t
def asg : Tg → D → Tau → Option Tau
  | .nm i, d, t => some (t.set i (some d))
  | .tp is, .tup ds, t => if is.length = ds.length then some (setAll t is ds) else none
  | .tp _, _, _ => none
def Tg.own : Tg → List Nat
  | .nm i => [i]
  | .tp is => is
/-- only the slots of is may differ -/
def But (is : List Nat) (σ σ' : L2.St) : Prop := σ'.length = σ.length ∧ ∀ j, j ∉ is → σ'[j]? = σ[j]?
theorem But.refl (is : List Nat) (σ : L2.St) : But is σ σ := ⟨rfl, fun _ _ => rfl⟩
theorem But.trans {is : List Nat} {a b c : L2.St} (x : But is a b) (y : But is b c) : But is a c := ⟨y.1.trans x.1, fun j h => (y.2 j h).trans (x.2 j h)⟩
theorem But.mono {is js : List Nat} {a b : L2.St} (x : But is a b) (h : ∀ i ∈ is, i ∈ js) : But js a b := ⟨x.1, fun j n => x.2 j fun m => n (h j m)⟩
theorem But.set {is : List Nat} {a : L2.St} {i : Nat} {v : Option V} (h : i ∈ is) : But is a (a.set i v) :=
  ⟨by simp, fun j n => by rw [List.getElem?_set_ne]; rintro rfl; exact n h⟩
abbrev TGD (K : PySem.W.Frag) (g : Tg) : TG := fun v σ H Q => ∃ r t h d t', R K r h H ∧ Slots K H r σ t ∧ Rep K H r v d ∧ asg g d t = some t' ∧ ∀ σ', Slots K H r σ' t' → But g.own σ σ' → Q σ' H
abbrev DG (X : Cx) (e : Expr) (g : Tg) : Prop := PG X e (TGD X.K g)
section
variable {X : Cx}
theorem pgimp {e : Expr} {t u : TG} (h : PG X e t) (i : ∀ v σ H Q, u v σ H Q → t v σ H Q) : PG X e u := ⟨fun pins s σ H v u Q I r q => h.run pins s σ H v u Q I r (i _ _ _ _ q)⟩
theorem dg_nm {i : Nat} {x : Str} {pos} (hN : X.N.Nodup) (hi : X.N[i]? = some x) (hx : Loc X.env.scope x) (hf : X.fn x = true ∨ X.env.scope.names.lookup x = some .local) : DG X (.Name x pos) (.nm i) :=
  pgimp (pg_name hN hi hx hf) fun v σ H Q ⟨r, t, h, d, t', Y, S, rv, e, q⟩ => by
    unfold asg at e
    cases e
    exact q _ (S.set i rv) (.set (by simp [Tg.own]))
/-- names, each with its slot -/
inductive Nms (X : Cx) : List Expr → List Nat → Prop
  | nil : Nms X [] []
  | cons {x : Str} {pos : Pos} {i : Nat} {es : List Expr} {is : List Nat} : X.N[i]? = some x → Loc X.env.scope x → (X.fn x = true ∨ X.env.scope.names.lookup x = some .local) → Nms X es is → Nms X (.Name x pos :: es) (i :: is)
abbrev gAll (K : PySem.W.Frag) (is : List Nat) : TGs := fun vs σ H Q => ∃ r t h ds, R K r h H ∧ Slots K H r σ t ∧ RepA K H r vs ds ∧ is.length = ds.length ∧ ∀ σ', Slots K H r σ' (setAll t is ds) → But is σ σ' → Q σ' H
theorem pgsimp {e : List Expr} {t u : TGs} (h : PGs X e t) (i : ∀ v σ H Q, u v σ H Q → t v σ H Q) : PGs X e u := ⟨fun pins s σ H v u Q I r q => h.run pins s σ H v u Q I r (i _ _ _ _ q)⟩
theorem Nms.pgs (hN : X.N.Nodup) : ∀ {es : List Expr} {is : List Nat}, Nms X es is → PGs X es (gAll X.K is)
  | _, _, .nil => pgsimp pgs_nil fun vs σ H Q ⟨r, t, h, ds, Y, S, rv, e, q⟩ => by
    cases ds with
    | cons d ds => cases e
    | nil =>
      cases rv
      exact ⟨rfl, q _ S (But.refl _ _)⟩
  | _, _, .cons (i := i) (is := is) h1 h2 h3 k => pgsimp (pgs_cons (pg_name hN h1 h2 h3) (Nms.pgs hN k)) fun vs σ H Q ⟨r, t, h, ds, Y, S, rv, e, q⟩ => by
    cases ds with
    | nil => cases e
    | cons d ds =>
      cases rv with
      | cons rv rvs =>
        refine ⟨_, _, rfl, r, t.set i (some d), h, ds, Y, S.set i rv, rvs, by simpa using e, fun σ' S' b => q σ' S' ?_⟩
        exact (But.set (by simp)).trans (b.mono fun j m => List.mem_cons_of_mem _ m)
theorem Nms.len : ∀ {es : List Expr} {is : List Nat}, Nms X es is → (assignEach es X.env).length = is.length ∧ (assignEach es X.env).findIdx? (·.1) = none
  | _, _, .nil => ⟨rfl, rfl⟩
  | _, _, .cons h1 h2 h3 k => by
    obtain ⟨a, b⟩ := Nms.len k
    refine ⟨by simp [assignEach, a], ?_⟩
    simp only [assignEach, List.findIdx?_cons, b]
    rfl
theorem dg_tp {es : List Expr} {is : List Nat} {k pos} (hc : X.calm = true) (hN : X.N.Nodup) (n : Nms X es is) : DG X (.Tuple es k pos) (.tp is) :=
  pgimp (pg_tup hc (n.pgs hN) n.len.1 n.len.2) fun v σ H Q ⟨r, t, h, d, t', Y, S, rv, e, q⟩ => by
    cases d with
    | tup ds =>
      cases rv with
      | tup f k =>
        have e : (if is.length = ds.length then some (setAll t is ds) else none) = some t' := e
        by_cases hl : is.length = ds.length
        · rw [if_pos hl] at e
          cases e
          exact ⟨_, _, rfl, f.seq, by rw [k.len]; exact hl.symm, r, t, h, ds, Y, S, k, hl, fun σ' S' b => q σ' S' b⟩
        · rw [if_neg hl] at e; cases e
    | _ => unfold asg at e; cases e
end

/-! ### what is walked -/
structure Src where
  items : List D
  g : Option (Nat × List D)
def Src.ok (s : Src) (h : Hd) : Prop := match s.g with
  | none => True
  | some p => h[p.1]? = some (.lst p.2)
abbrev MI := Calls → Tau → Hd → Res Src
def relI (K : PySem.W.Frag) : Rl It Src := fun H r J s => ∃ G : Rho → Hp → Prop, G r H ∧
  (∀ (i : Nat) (r : Rho) (h : Hd) (H : Hp), R K r h H → G r H → s.ok h → (∀ d, s.items[i]? = some d → J.go i H ∧ ∀ x H', J.yld i H x H' → H' = H ∧ Rep K H r x d) ∧ (s.items.length ≤ i → J.stop i H)) ∧
  (∀ (r : Rho) (H : Hp) (r' : Rho) (h' : Hd) (H' : Hp), G r H → Ext r H r' H' → R K r' h' H' → s.ok h' → G r' H') ∧
  ∀ (r : Rho) (H : Hp) (r' : Rho) (H' : Hp), G r H → Shift r H r' H' → G r' H'
abbrev DI (X : Cx) (CL : List XC) (W : WX) (c : Calls) (tg e : Expr) (m : MI) : Prop := PI X tg e (rd X.K CL W (relI X.K) c m)
def dIter (d : D) (h : Hd) : Res Src :=
  match d with
  | .lst xs => .ok ⟨xs, none⟩ h
  | .scr xs => .ok ⟨xs, none⟩ h
  | .tup xs => .ok ⟨xs, none⟩ h
  | .str s => .ok ⟨s.map fun ch => .str [ch], none⟩ h
  | .ref i => match h[i]? with
    | some (.lst xs) => .ok ⟨xs, some (i, xs)⟩ h
    | _ => .stuck
  | _ => .stuck
def iVal (m : M) : MI := fun c t h => (m c t h).bind dIter
def rngD (lo : Int) (n : Nat) : List D := (List.range n).map fun (k : Nat) => .int (lo + (k : Int))
def dRng1 (d : D) (h : Hd) : Res Src :=
  match d with
  | .int j => if -(2 ^ 62) ≤ j ∧ j < 2 ^ 62 then .ok ⟨rngD 0 j.toNat, none⟩ h else .stuck
  | _ => .stuck
def dRng2 (d e : D) (h : Hd) : Res Src :=
  match d, e with
  | .int i, .int j => if (-(2 ^ 62) ≤ i ∧ i < 2 ^ 62) ∧ -(2 ^ 62) ≤ j ∧ j < 2 ^ 62 then .ok ⟨rngD i (j - i).toNat, none⟩ h else .stuck
  | _, _ => .stuck
def iRng1 (m : M) : MI := fun c t h => (m c t h).bind dRng1
def iRng2 (a b : M) : MI := fun c t h => (a c t h).bind fun x h1 => (b c t h1).bind fun y h2 => dRng2 x y h2
def dRev (d : D) (h : Hd) : Res Src :=
  match d with
  | .lst xs => .ok ⟨xs.reverse, none⟩ h
  | .tup xs => .ok ⟨xs.reverse, none⟩ h
  | .ref i => match h[i]? with
    | some (.lst xs) => .ok ⟨xs.reverse, some (i, xs)⟩ h
    | _ => .stuck
  | _ => .stuck
def iRevV (m : M) : MI := fun c t h => (m c t h).bind dRev
section
variable {X : Cx} {CL : List XC} {W : WX} {c : Calls} {tg : Expr}
theorem piimp {e : Expr} {t u : TI} (h : PI X tg e t) (i : ∀ σ H Q, u σ H Q → t σ H Q) : PI X tg e u := ⟨fun pins s σ H Q I q => h.run pins s σ H Q I (i _ _ _ q)⟩
theorem pi_or' {e : Expr} {t u : TI} (h : PI X tg e t) (k : PI X tg e u) : PI X tg e (fun σ H Q => t σ H Q ∨ u σ H Q) := ⟨fun pins s σ H Q I q => q.elim (h.run pins s σ H Q I) (k.run pins s σ H Q I)⟩
theorem walk_list {K : PySem.W.Frag} {H : Hp} {r : Rho} {a : Addr} {vs : List V} {ds : List D} (f : FzL H r a vs) (k : RepA K H r vs ds) : relI K H r (Itl K a) ⟨ds, none⟩ := by
  refine ⟨fun r H => ∃ vs, FzL H r a vs ∧ RepA K H r vs ds, ⟨vs, f, k⟩, fun i r h H Y ⟨vs, f, k⟩ _ => ⟨fun d e => ?_, fun hl => ?_⟩, fun r H r' h' H' ⟨vs, f, k⟩ x _ _ => ⟨vs, x.fzl f, k.mono x⟩, fun r H r' H' ⟨vs, f, k⟩ x => ⟨vs, x.fzl f, k.shift x⟩⟩
  · obtain ⟨v, e1, rv⟩ := k.get' e
    refine ⟨⟨vs, v, f.seq, e1⟩, fun x H' ⟨e2, e3⟩ => ⟨e2, ?_⟩⟩
    have := e3 vs f.seq
    rw [e1] at this; cases this
    exact rv
  · exact ⟨vs, f.seq, by rw [k.len]; exact hl⟩
theorem walk_scr {K : PySem.W.Frag} {H : Hp} {r : Rho} {a : Addr} {vs : List V} {ds : List D} (f : FzS K H r a vs) (k : RepA K H r vs ds) : relI K H r (Itl K a) ⟨ds, none⟩ := by
  refine ⟨fun r H => ∃ vs, FzS K H r a vs ∧ RepA K H r vs ds, ⟨vs, f, k⟩, fun i r h H Y ⟨vs, f, k⟩ _ => ⟨fun d e => ?_, fun hl => ?_⟩, fun r H r' h' H' ⟨vs, f, k⟩ x _ _ => ⟨vs, x.fzs f, k.mono x⟩, fun r H r' H' ⟨vs, f, k⟩ x => ⟨vs, x.fzs f, k.shift x⟩⟩
  · obtain ⟨v, e1, rv⟩ := k.get' e
    refine ⟨⟨vs, v, f.seq, e1⟩, fun x H' ⟨e2, e3⟩ => ⟨e2, ?_⟩⟩
    have := e3 vs f.seq
    rw [e1] at this; cases this
    exact rv
  · exact ⟨vs, f.seq, by rw [k.len]; exact hl⟩
theorem walk_tup {K : PySem.W.Frag} {H : Hp} {r : Rho} {a : Addr} {vs : List V} {ds : List D} (f : FzT K H r a vs) (k : RepA K H r vs ds) : relI K H r (Itt K a) ⟨ds, none⟩ := by
  refine ⟨fun r H => ∃ vs, FzT K H r a vs ∧ RepA K H r vs ds, ⟨vs, f, k⟩, fun i r h H Y ⟨vs, f, k⟩ _ => ⟨fun d e => ?_, fun hl => ?_⟩, fun r H r' h' H' ⟨vs, f, k⟩ x _ _ => ⟨vs, x.fzt f, k.mono x⟩, fun r H r' H' ⟨vs, f, k⟩ x => ⟨vs, x.fzt f, k.shift x⟩⟩
  · obtain ⟨v, e1, rv⟩ := k.get' e
    refine ⟨⟨vs, v, f.seq, e1⟩, fun x H' ⟨e2, e3⟩ => ⟨e2, ?_⟩⟩
    have := e3 vs f.seq
    rw [e1] at this; cases this
    exact rv
  · exact ⟨vs, f.seq, by rw [k.len]; exact hl⟩
theorem open_at {K : PySem.W.Frag} {H : Hp} {r : Rho} {h : Hd} {a : Addr} {i0 : Nat} {ds : List D} (Y : R K r h H) (e : r.l[i0]? = some (some a)) (g : h[i0]? = some (.lst ds)) : ∃ vs, SqL K H a vs ∧ RepA K H r vs ds := by
  obtain ⟨o, h1, h2⟩ := Y.get _ _ e
  rw [g] at h1; cases h1
  obtain ⟨vs, h3, h4⟩ := h2
  exact ⟨vs, .inl (.inl h3), h4⟩
theorem open_stays {K : PySem.W.Frag} {H H' : Hp} {r r' : Rho} {h' : Hd} {a : Addr} {i0 : Nat} {ds : List D} (e : r.l[i0]? = some (some a)) (x : Ext r H r' H') (Y' : R K r' h' H') (g : h'[i0]? = some (.lst ds)) : r'.l[i0]? = some (some a) := by
  rcases x.pre _ _ e with z | z
  · exact z
  · have := Y'.dead _ z
    rw [g] at this; cases this
theorem walk_ref {K : PySem.W.Frag} {H : Hp} {r : Rho} {a : Addr} {i0 : Nat} {ds : List D} (e0 : r.l[i0]? = some (some a)) : relI K H r (Itl K a) ⟨ds, some (i0, ds)⟩ := by
  refine ⟨fun r H => r.l[i0]? = some (some a), e0, fun i r h H Y e g => ?_, fun r H r' h' H' e x Y' g => open_stays e x Y' g, fun r H r' H' e x => x.pre _ _ e⟩
  obtain ⟨vs, f, k⟩ := open_at Y e g
  refine ⟨fun d e => ?_, fun hl => ⟨vs, f, by rw [k.len]; exact hl⟩⟩
  obtain ⟨v, e1, rv⟩ := k.get' e
  refine ⟨⟨vs, v, f, e1⟩, fun x H' ⟨e2, e3⟩ => ⟨e2, ?_⟩⟩
  have := e3 vs f
  rw [e1] at this; cases this
  exact rv
theorem walk_str {K : PySem.W.Frag} {H : Hp} {r : Rho} {x : Str} (ok : SOk x) : relI K H r (Its x) ⟨x.cps.toList.map fun ch => .str [ch], none⟩ := by
  refine ⟨fun _ _ => True, trivial, fun i r h H Y _ _ => ⟨fun d e => ?_, fun hl => ?_⟩, fun _ _ _ _ _ _ _ _ _ => trivial, fun _ _ _ _ _ _ => trivial⟩
  · rw [List.getElem?_map] at e
    cases q : x.cps.toList[i]? with
    | none => rw [q] at e; cases e
    | some ch =>
      rw [q] at e; cases e
      have hi : i < x.cps.size := by
        have := (List.getElem?_eq_some_iff.mp q).1
        simpa using this
      refine ⟨hi, fun v H' ⟨e2, c', e3, e4⟩ => ⟨e2, ?_⟩⟩
      subst e4
      have : c' = ch := by
        have q' := q
        rw [Array.getElem?_toList] at q'
        rw [q'] at e3; cases e3; rfl
      subst this
      exact .str ⟨#[c']⟩ (sOk_one ok q)
  · rw [List.length_map, Array.length_toList] at hl
    exact hl
theorem walk_rng {K : PySem.W.Frag} {H : Hp} {r : Rho} {lo : Int} {n : Nat} : relI K H r (Itr lo n) ⟨rngD lo n, none⟩ := by
  refine ⟨fun _ _ => True, trivial, fun i r h H Y _ _ => ⟨fun d e => ?_, fun hl => ?_⟩, fun _ _ _ _ _ _ _ _ _ => trivial, fun _ _ _ _ _ _ => trivial⟩
  · have e : (rngD lo n)[i]? = some d := e
    unfold rngD at e
    rw [List.getElem?_map] at e
    have hi : i < n := by
      cases q : (List.range n)[i]? with
      | none => rw [q] at e; cases e
      | some k => have := (List.getElem?_eq_some_iff.mp q).1; simpa using this
    rw [List.getElem?_range hi] at e
    cases e
    refine ⟨hi, fun v H' ⟨e2, e3⟩ => ⟨e2, ?_⟩⟩
    subst e3
    exact .int _
  · have hl : (rngD lo n).length ≤ i := hl
    unfold rngD at hl
    rw [List.length_map, List.length_range] at hl
    exact hl
/-- what can be walked: a list, a tuple, a text -/
def iAny (K : PySem.W.Frag) (te : TE) : TI := fun σ H R => te σ H fun v H1 => (∃ a, v = .ref a ∧ (∃ xs, SqL K H1 a xs) ∧ R (Itl K a) H1) ∨ (∃ a, v = .ref a ∧ (∃ xs, SqT K H1 a xs) ∧ R (Itt K a) H1) ∨ ∃ x, v = .str x ∧ R (Its x) H1
theorem pi_any {e : Expr} {te : TE} (he : PE X e te) : PI X tg e (iAny X.K te) := by
  refine ⟨fun pins s σ H R I h => ?_⟩
  refine thn (he.run pins s σ H _ I h) fun v s1 ⟨y, H1, I1, r1, q1⟩ => ?_
  rcases q1 with ⟨a, rfl, ⟨xs, hq⟩, q⟩ | ⟨a, rfl, ⟨xs, hq⟩, q⟩ | ⟨x, rfl, q⟩
  · cases r1
    obtain ⟨its, rv, p, _⟩ := I1.list hq
    exact wpAny_pyIter_list p.isList (pi_one (tk := s1.toks) I1 _ (turn_list a _) ⟨_, Heap.get?_push_size _ rfl, rfl, rfl⟩ q)
  · cases r1
    obtain ⟨its, rv, p, _⟩ := I1.tuple hq
    exact wpAny_pyIter_tuple (show s1.heap.IsTuple a its.toArray from p) (pi_one (tk := s1.toks) I1 _ (turn_tuple a _) ⟨_, Heap.get?_push_size _ rfl, rfl, rfl⟩ q)
  · obtain ⟨t, rfl⟩ := r1
    cases ha : x.cps.all (· < 128) with
    | false => exact wpAny_pyIter_wide ha (pi_one (tk := s1.toks) I1 _ (turn_str _ x t "str_iterator" (.inr rfl)) ⟨_, Heap.get?_push_size _ rfl, rfl, rfl⟩ q)
    | true => exact wpAny_pyIter_ascii ha (pi_one (tk := s1.toks) I1 _ (turn_str _ x t "str_ascii_iterator" (.inl rfl)) ⟨_, Heap.get?_push_size _ rfl, rfl, rfl⟩ q)
theorem di_val {e : Expr} {m : M} (h : DE X CL W c e m) : DI X CL W c tg e (iVal m) :=
  piimp (pi_any (tg := tg) h) fun σ H Q ⟨r, t, h0, Y, S, q⟩ => (rd_bind Y S q).mono fun v H1 ⟨r1, h1, d, e1, Y1, S1, rv, q1⟩ => by
    unfold dIter at q1
    split at q1
    · cases rv with
      | lst f k => exact .inl ⟨_, rfl, ⟨_, f.seq⟩, q1.now Y1 (walk_list f k)⟩
    · cases rv with
      | scr f k => exact .inl ⟨_, rfl, ⟨_, f.seq⟩, q1.now Y1 (walk_scr f k)⟩
    · cases rv with
      | tup f k => exact .inr (.inl ⟨_, rfl, ⟨_, f.seq⟩, q1.now Y1 (walk_tup f k)⟩)
    · obtain ⟨x, rfl, rfl, ok⟩ := rep_str rv
      exact .inr (.inr ⟨x, rfl, q1.now Y1 (walk_str ok)⟩)
    · split at q1
      · rename_i i xs e
        cases rv with
        | ref f =>
          obtain ⟨vs, f1, k⟩ := open_at Y1 f e
          exact .inl ⟨_, rfl, ⟨_, f1⟩, q1.now Y1 (walk_ref f)⟩
        | dead f =>
          have := Y1.dead _ f
          rw [e] at this; cases this
      · exact q1.elim
    · exact q1.elim
theorem di_rng1 {a : Expr} {m : M} {p pos : Pos} (hg : Gl X "range") (hm : X.mg "range" = none) (ha : DE X CL W c a m) (hs : starEach [a] X.env = [(false, eval a X.env)]) : DI X CL W c tg (.Call (.Name "range" p) [a] [] pos) (iRng1 m) :=
  piimp (pi_range1 hg hm (pa_cons ha pa_nil hs) hs) fun σ H Q ⟨r, t, h0, Y, S, q⟩ => (rd_bind Y S q).mono fun v H1 ⟨r1, h1, d, e1, Y1, S1, rv, q1⟩ => by
    unfold dRng1 at q1
    split at q1
    · rename_i j
      split at q1
      · rename_i hb
        cases rv
        exact ⟨j, rfl, hb.1, hb.2, q1.now Y1 walk_rng⟩
      · exact q1.elim
    · exact q1.elim
theorem di_rng2 {a b : Expr} {ma mb : M} {p pos : Pos} (hg : Gl X "range") (hm : X.mg "range" = none) (ha : DE X CL W c a ma) (hb : DE X CL W c b mb) (hs : starEach [a, b] X.env = [(false, eval a X.env), (false, eval b X.env)]) (hs2 : starEach [b] X.env = [(false, eval b X.env)]) :
    DI X CL W c tg (.Call (.Name "range" p) [a, b] [] pos) (iRng2 ma mb) :=
  piimp (pi_range2 hg hm (pa_cons ha (pa_cons hb pa_nil hs2) (by rw [hs, hs2])) hs hs2) fun σ H Q ⟨r, t, h0, Y, S, q⟩ => (rd_bind Y S q).mono fun v H1 ⟨r1, h1, d, e1, Y1, S1, rv, q1⟩ => (rd_bind Y1 S1 q1).mono fun u H2 ⟨r2, h2, e, e2, Y2, S2, ru, q2⟩ => by
    unfold dRng2 at q2
    split at q2
    · split at q2
      · rename_i hb
        cases rv
        cases ru
        exact ⟨_, _, rfl, ⟨hb.1.1, hb.1.2, hb.2.1, hb.2.2⟩, q2.now Y2 walk_rng⟩
      · exact q2.elim
    · exact q2.elim
theorem walk_of_rev {K : PySem.W.Frag} {J : It} {G : Rho → Hp → Prop} {ds : List D} {r : Rho} {H : Hp} {g : Option (Nat × List D)} (g0 : G r H)
    (hy : ∀ (r : Rho) (h : Hd) (H : Hp), R K r h H → G r H → (Src.mk ds.reverse g).ok h → ∃ vs, RepA K H r vs ds ∧ (∀ i x, i < vs.length → vs[vs.length - 1 - i]? = some x → J.go i H) ∧ (∀ i x H', J.yld i H x H' → H' = H ∧ vs[vs.length - 1 - i]? = some x) ∧ ∀ i, vs.length ≤ i → J.stop i H)
    (st : ∀ (r : Rho) (H : Hp) (r' : Rho) (h' : Hd) (H' : Hp), G r H → Ext r H r' H' → R K r' h' H' → (Src.mk ds.reverse g).ok h' → G r' H') (sf : ∀ (r : Rho) (H : Hp) (r' : Rho) (H' : Hp), G r H → Shift r H r' H' → G r' H') : relI K H r J ⟨ds.reverse, g⟩ := by
  refine ⟨G, g0, fun i r h H Y z ok => ?_, st, sf⟩
  obtain ⟨vs, k, h1, h2, h3⟩ := hy r h H Y z ok
  have kl := k.len
  refine ⟨fun d e => ?_, fun hl => h3 i (by rw [List.length_reverse] at hl; omega)⟩
  have hi : i < ds.length := by have := (List.getElem?_eq_some_iff.mp e).1; simpa using this
  have e' : ds[ds.length - 1 - i]? = some d := by rw [← List.getElem?_reverse hi]; exact e
  obtain ⟨v, e1, rv⟩ := k.get' e'
  rw [← kl] at e1
  refine ⟨h1 i v (by omega) e1, fun x H' y => ?_⟩
  obtain ⟨e2, e3⟩ := h2 i x H' y
  rw [e1] at e3; cases e3
  exact ⟨e2, rv⟩
theorem di_rev {e : Expr} {m : M} {p pos : Pos} (hg : Gl X "reversed") (hm : X.mg "reversed" = none) (he : DE X CL W c e m) (hs : starEach [e] X.env = (false, eval e X.env) :: starEach [] X.env) : DI X CL W c tg (.Call (.Name "reversed" p) [e] [] pos) (iRevV m) :=
  piimp (RT.pi_revA hg hm he hs) fun σ H Q ⟨r, t, h0, Y, S, q⟩ => (rd_bind Y S q).mono fun v H1 ⟨r1, h1, d, e1, Y1, S1, rv, q1⟩ => by
    unfold dRev at q1
    split at q1
    · rename_i xs
      cases rv with
      | @lst a vs _ f k =>
        refine ⟨a, vs, rfl, .inl ⟨f.seq, q1.now Y1 (walk_of_rev (G := fun r H => FzL H r a vs ∧ RepA X.K H r vs xs) ⟨f, k⟩ (fun r h H Y ⟨f, k⟩ _ => ⟨vs, k, fun i x hi e => ?_, fun i x H' ⟨e, e2⟩ => ⟨e, e2 vs f.seq⟩, fun i hi => hi⟩) (fun r H r' h' H' ⟨f, k⟩ x _ _ => ⟨x.fzl f, k.mono x⟩) fun r H r' H' ⟨f, k⟩ x => ⟨x.fzl f, k.shift x⟩)⟩⟩
        exact ⟨hi, vs, x, f.seq, e⟩
    · rename_i xs
      cases rv with
      | @tup a vs _ f k =>
        refine ⟨a, vs, rfl, .inr ⟨f.seq, q1.now Y1 (walk_of_rev (G := fun r H => FzT X.K H r a vs ∧ RepA X.K H r vs xs) ⟨f, k⟩ (fun r h H Y ⟨f, k⟩ _ => ⟨vs, k, fun i x hi e => ?_, fun i x H' ⟨e, e2⟩ => ⟨e, e2 vs f.seq⟩, fun i hi => hi⟩) (fun r H r' h' H' ⟨f, k⟩ x _ _ => ⟨x.fzt f, k.mono x⟩) fun r H r' H' ⟨f, k⟩ x => ⟨x.fzt f, k.shift x⟩)⟩⟩
        exact ⟨hi, vs, x, f.seq, e⟩
    · rename_i i0
      split at q1
      · rename_i xs e0
        cases rv with
        | @ref a _ f =>
          obtain ⟨vs, f1, k⟩ := open_at Y1 f e0
          refine ⟨a, vs, rfl, .inl ⟨f1, q1.now Y1 (walk_of_rev (G := fun (r : Rho) _ => r.l[i0]? = some (some a)) f (fun r hh H Y f g => ?_) (fun r H r' h' H' f x Y' g => open_stays f x Y' g) fun r H r' H' f x => x.pre _ _ f)⟩⟩
          obtain ⟨us, f2, k2⟩ := open_at (h := hh) Y f g
          have hl : vs.length = us.length := by rw [k.len, k2.len]
          rw [hl]
          exact ⟨us, k2, fun i x hi e => ⟨hi, us, x, f2, e⟩, fun i x H' ⟨e, e2⟩ => ⟨e, e2 us f2⟩, fun i hi => hi⟩
        | dead f =>
          have := Y1.dead _ f
          rw [e0] at this; cases this
      · exact q1.elim
    · exact q1.elim
end
end Ev

/-! Ev7: statements. -/
namespace Ev
open PySem L2

/-- how a statement ends -/
inductive SR where
  | nx (t : Tau) (h : Hd) | rt (d : D) (h : Hd) | bk (t : Tau) (h : Hd) | ct (t : Tau) (h : Hd) | exn (c : Nat) (fs : List D) (t : Tau) (h : Hd) | stuck
abbrev MS := Calls → Tau → Hd → SR
def Res.toS {α : Type} (x : Res α) (t : Tau) (k : α → Hd → SR) : SR :=
  match x with
  | .ok a h => k a h
  | .exn c fs h => .exn c fs t h
  | .stuck => .stuck
def SR.seq (x : SR) (k : Tau → Hd → SR) : SR :=
  match x with
  | .nx t h => k t h
  | .rt d h => .rt d h
  | .bk t h => .bk t h
  | .ct t h => .ct t h
  | .exn c fs t h => .exn c fs t h
  | .stuck => .stuck
/-- a loop's turn, then the rest -/
def SR.turn (x : SR) (k : Tau → Hd → SR) : SR :=
  match x with
  | .nx t h => k t h
  | .ct t h => k t h
  | .bk t h => .nx t h
  | .rt d h => .rt d h
  | .exn c fs t h => .exn c fs t h
  | .stuck => .stuck
def sNil : MS := fun _ t h => .nx t h
def sSeq (a b : MS) : MS := fun c t h => (a c t h).seq fun t' h' => b c t' h'
def sExpr (m : M) : MS := fun c t h => (m c t h).toS t fun _ h' => .nx t h'
def sRet (m : M) : MS := fun c t h => (m c t h).toS t fun d h' => .rt d h'
def sRetN : MS := fun _ _ h => .rt .non h
def sBreak : MS := fun _ t h => .bk t h
def sCont : MS := fun _ t h => .ct t h
def sSet (i : Nat) (m : M) : MS := fun c t h => (m c t h).toS t fun d h' => .nx (t.set i (some d)) h'
def sAsg (g : Tg) (m : M) : MS := fun c t h => (m c t h).toS t fun d h' => match asg g d t with
  | some t' => .nx t' h'
  | none => .stuck
def sIf (k : MB) (a b : MS) : MS := fun c t h => (k c t h).toS t fun z h' => if z then a c t h' else b c t h'
open Classical in
noncomputable def forL (s : Src) (step : D → Tau → Hd → SR) : List D → Tau → Hd → SR
  | [], t, h => if s.ok h then .nx t h else .stuck
  | d :: ds, t, h => if s.ok h then (step d t h).turn (forL s step ds) else .stuck
noncomputable def sFor (it : MI) (g : Tg) (b : MS) : MS := fun c t h => (it c t h).toS t fun s h' => forL s (fun d t h => match asg g d t with
  | some t' => b c t' h
  | none => .stuck) s.items t h'
def whileL (k : MB) (b : MS) (c : Calls) : Nat → Tau → Hd → SR
  | 0, _, _ => .stuck
  | n + 1, t, h => (k c t h).toS t fun z h' => if z then (b c t h').turn (whileL k b c n) else .nx t h'
def bigN : Nat := 1000000000
def sWhile (k : MB) (b : MS) : MS := fun c t h => whileL k b c bigN t h
/-- o[i] = e -/
def dSet (o i v : D) (h : Hd) : Res Unit :=
  match o with
  | .ref a => match h[a]? with
    | some (.lst xs) => match i with
      | .int n => match ixI xs.length n with
        | some j => .ok () (h.set a (.lst (xs.set j v)))
        | none => .stuck
      | _ => .stuck
    | _ => .stuck
  | _ => .stuck
def sSub (o i m : M) : MS := fun c t h => (m c t h).toS t fun v h1 => (o c t h1).toS t fun x h2 => (i c t h2).toS t fun y h3 => (dSet x y v h3).toS t fun _ h4 => .nx t h4

section
variable (K : PySem.W.Frag) (CL : List XC) (W : WX)
def rdS (r : Rho) (H : Hp) (E : Ends) : SR → Prop
  | .nx t h => ∀ σ' r' H', Ext r H r' H' → R K r' h H' → Slots K H' r' σ' t → E.nx σ' H'
  | .rt d h => ∀ v r' H', Ext r H r' H' → R K r' h H' → Rep K H' r' v d → E.rt v H'
  | .bk t h => ∀ σ' r' H', Ext r H r' H' → R K r' h H' → Slots K H' r' σ' t → E.bk σ' H'
  | .ct t h => ∀ σ' r' H', Ext r H r' H' → R K r' h H' → Slots K H' r' σ' t → E.ct σ' H'
  | .exn c fs t h => ∀ cls dd σ' r' H', Ext r H r' H' → R K r' h H' → Slots K H' r' σ' t → ExR K CL H' r' c fs cls dd → W cls dd σ' H'
  | .stuck => False
def rs (c : Calls) (m : MS) : TS := fun E σ H => ∃ r t h, R K r h H ∧ Slots K H r σ t ∧ rdS K CL W r H E (m c t h)
end
section
variable {K : PySem.W.Frag} {CL : List XC} {W : WX} {c : Calls}
theorem rdS.ext {r r1 : Rho} {H H1 : Hp} {E : Ends} {x : SR} (e : Ext r H r1 H1) (q : rdS K CL W r H E x) : rdS K CL W r1 H1 E x := by
  cases x with
  | nx t h => exact fun σ' r' H' a => q σ' r' H' (e.trans a)
  | rt d h => exact fun σ' r' H' a => q σ' r' H' (e.trans a)
  | bk t h => exact fun σ' r' H' a => q σ' r' H' (e.trans a)
  | ct t h => exact fun σ' r' H' a => q σ' r' H' (e.trans a)
  | exn c fs t h => exact fun cls dd σ' r' H' a => q cls dd σ' r' H' (e.trans a)
  | stuck => exact q
theorem rs_bind {α β : Type} {rel : Rl β α} {r : Rho} {H : Hp} {h : Hd} {t : Tau} {σ : L2.St} {E : Ends} {m : Calls → Tau → Hd → Res α} {k : α → Hd → SR}
    (x : R K r h H) (s : Slots K H r σ t) (q : rdS K CL W r H E ((m c t h).toS t k)) :
    rd K CL W rel c m σ H fun v H1 => ∃ r1 h1 d, Ext r H r1 H1 ∧ R K r1 h1 H1 ∧ Slots K H1 r1 σ t ∧ rel H1 r1 v d ∧ rdS K CL W r1 H1 E (k d h1) := by
  refine ⟨r, t, h, x, s, ?_⟩
  cases e : m c t h with
  | ok d h' =>
    rw [e] at q
    exact fun v r' H' e1 x' rv => ⟨r', h', d, e1, x', s.mono e1, rv, rdS.ext e1 q⟩
  | exn c fs h' =>
    rw [e] at q
    exact fun cls dd r' H' a b d => q cls dd σ r' H' a b (s.mono a) d
  | stuck =>
    rw [e] at q
    exact q
theorem rdS.nx {r : Rho} {H : Hp} {h : Hd} {t : Tau} {σ : L2.St} {E : Ends} (q : rdS K CL W r H E (.nx t h)) (x : R K r h H) (s : Slots K H r σ t) : E.nx σ H := q σ r H (Ext.refl r H) x s
end
section
variable {X : Cx} {CL : List XC} {W : WX} {c : Calls}
abbrev DS (X : Cx) (CL : List XC) (W : WX) (c : Calls) (st : Stmt) (m : MS) : Prop := PS X st (rs X.K CL W c m)
abbrev DSs (X : Cx) (CL : List XC) (W : WX) (c : Calls) (st : List Stmt) (m : MS) : Prop := PSs X st (rs X.K CL W c m)
theorem psimp {e : Stmt} {t u : TS} (h : PS X e t) (i : ∀ E σ H, u E σ H → t E σ H) : PS X e u := ⟨fun pins s σ H Q I q => h.run pins s σ H Q I (i _ _ _ q)⟩
theorem pssimp {e : List Stmt} {t u : TS} (h : PSs X e t) (i : ∀ E σ H, u E σ H → t E σ H) : PSs X e u := ⟨fun pins s σ H Q I q => h.run pins s σ H Q I (i _ _ _ q)⟩
theorem ds_nil : DSs X CL W c [] sNil := pssimp pss_nil fun E σ H ⟨r, t, h, Y, S, q⟩ => q.nx Y S
theorem seq_of {a b : MS} {E : Ends} {σ : L2.St} {H : Hp} (q : rs X.K CL W c (sSeq a b) E σ H) : rs X.K CL W c a { E with nx := rs X.K CL W c b E } σ H := by
  obtain ⟨r, t, h, Y, S, q⟩ := q
  refine ⟨r, t, h, Y, S, ?_⟩
  unfold sSeq at q
  cases e : a c t h with
  | nx t' h' => rw [e] at q; exact fun σ' r' H' x Y' S' => ⟨r', t', h', Y', S', rdS.ext x q⟩
  | rt d h => rw [e] at q; exact q
  | bk t h => rw [e] at q; exact q
  | ct t h => rw [e] at q; exact q
  | exn a b c d => rw [e] at q; exact q
  | stuck => rw [e] at q; exact q
theorem ds_cons {st : Stmt} {rest : List Stmt} {a b : MS} (h1 : DS X CL W c st a) (h2 : DSs X CL W c rest b) : DSs X CL W c (st :: rest) (sSeq a b) := pssimp (pss_cons h1 h2) fun _ _ _ q => seq_of q
theorem ds_one {st : Stmt} {a : MS} (h1 : DS X CL W c st a) : DSs X CL W c [st] a := pss_one h1
theorem ds_expr {e : Expr} {m : M} {pos} (h : DE X CL W c e m) (hs : swapsWith e none pos.line X.env = pure false) : DS X CL W c (.Expr e pos) (sExpr m) :=
  psimp (ps_expr h hs) fun E σ H ⟨r, t, h, Y, S, q⟩ => (rs_bind Y S q).mono fun v H1 ⟨r1, h1, d, e1, Y1, S1, rv, q1⟩ => q1.nx Y1 S1
theorem ds_ret {e : Expr} {m : M} {pos} (h : DE X CL W c e m) : DS X CL W c (.Return (some e) pos) (sRet m) :=
  psimp (ps_ret h) fun E σ H ⟨r, t, h, Y, S, q⟩ => (rs_bind Y S q).mono fun v H1 ⟨r1, h1, d, e1, Y1, S1, rv, q1⟩ => q1 v r1 H1 (Ext.refl _ _) Y1 rv
theorem ds_retN {pos} : DS X CL W c (.Return none pos) sRetN := psimp ps_retN fun E σ H ⟨r, t, h, Y, S, q⟩ => q _ r H (Ext.refl _ _) Y .non
theorem ds_break {pos} : DS X CL W c (.Break pos) sBreak := psimp ps_break fun E σ H ⟨r, t, h, Y, S, q⟩ => q σ r H (Ext.refl _ _) Y S
theorem ds_cont {pos} : DS X CL W c (.Continue pos) sCont := psimp ps_continue fun E σ H ⟨r, t, h, Y, S, q⟩ => q σ r H (Ext.refl _ _) Y S
theorem ds_pass {pos} : DS X CL W c (.Pass pos) sNil := psimp ps_pass fun E σ H ⟨r, t, h, Y, S, q⟩ => q.nx Y S
theorem ds_set {i : Nat} {x : Str} {e : Expr} {m : M} {px pos} (h : DE X CL W c e m) (hN : X.N.Nodup) (hi : X.N[i]? = some x) (hx : Loc X.env.scope x) (hf : X.fn x = true ∨ X.env.scope.names.lookup x = some .local) (hs : swapsWith e (some (.Name x px)) pos.line X.env = pure false) :
    DS X CL W c (.Assign [.Name x px] e pos) (sSet i m) :=
  psimp (ps_set hN hi hx h hs hf) fun E σ H ⟨r, t, h, Y, S, q⟩ => (rs_bind Y S q).mono fun v H1 ⟨r1, h1, d, e1, Y1, S1, rv, q1⟩ => q1.nx Y1 (S1.set i rv)
theorem ds_asg {g : Tg} {tg e : Expr} {m : M} {pos} (h : DE X CL W c e m) (hg : DG X tg g) (hs : swapsWithSole [tg] e pos.line X.env = pure false) (hw : swappedStores [tg] e X.env = pure none) (h1 : (assignEach [tg] X.env).map (·.2) = [assign tg X.env]) :
    DS X CL W c (.Assign [tg] e pos) (sAsg g m) :=
  psimp (ps_asg h hg hs hw h1) fun E σ H ⟨r, t, h, Y, S, q⟩ => (rs_bind Y S q).mono fun v H1 ⟨r1, h1, d, e1, Y1, S1, rv, q1⟩ => by
    cases e : asg g d t with
    | none => rw [e] at q1; exact q1.elim
    | some t' => rw [e] at q1; exact ⟨r1, t, h1, d, t', Y1, S1, rv, e, fun σ' S' _ => q1.nx Y1 S'⟩
theorem ds_if {k : Expr} {a b : List Stmt} {mk : MB} {ma mb : MS} {pos} (h0 : DT X CL W c k mk) (h1 : DSs X CL W c a ma) (h2 : DSs X CL W c b mb) : DS X CL W c (.If k a b pos) (sIf mk ma mb) :=
  psimp (ps_if h0 h1 h2) fun E σ H ⟨r, t, h, Y, S, q⟩ => (rs_bind (rel := relB) Y S q).mono fun v H1 ⟨r1, h1, d, e1, Y1, S1, rv, q1⟩ => by
    have rv : v = d := rv
    subst rv
    cases v with
    | true => rw [if_pos rfl] at q1 ⊢; exact ⟨r1, t, h1, Y1, S1, q1⟩
    | false => rw [if_neg (by decide)] at q1 ⊢; exact ⟨r1, t, h1, Y1, S1, q1⟩
/-- a turn's end -/
theorem turn_of {E : Ends} {r : Rho} {H : Hp} {x : SR} {k : Tau → Hd → SR} {N : L2.St → Hp → Prop} (q : rdS X.K CL W r H E (x.turn k)) (hN : ∀ σ' r' t' h' H', R X.K r' h' H' → Slots X.K H' r' σ' t' → rdS X.K CL W r' H' E (k t' h') → Ext r H r' H' → N σ' H') :
    rdS X.K CL W r H { E with nx := N, ct := N, bk := E.nx } x := by
  cases x with
  | nx t' h' => exact fun σ' r' H' x Y' S' => hN σ' r' t' h' H' Y' S' (rdS.ext x q) x
  | ct t' h' => exact fun σ' r' H' x Y' S' => hN σ' r' t' h' H' Y' S' (rdS.ext x q) x
  | bk t h => exact q
  | rt d h => exact q
  | exn a b c d => exact q
  | stuck => exact q
theorem ds_while {k : Expr} {b : List Stmt} {mk : MB} {mb : MS} {pos} (hp : PassesOwn (model X.prog X.w) X.A X.env X.xe) (h0 : DT X CL W c k mk) (h1 : DSs X CL W c b mb) : DS X CL W c (.While k b [] pos) (sWhile mk mb) :=
  psimp (ps_while hp h0 h1) fun E σ H ⟨r, t, h, Y, S, q⟩ => by
    refine ⟨fun m σ H => ∃ r t h, R X.K r h H ∧ Slots X.K H r σ t ∧ rdS X.K CL W r H E (whileL mk mb c m t h), ⟨bigN, r, t, h, Y, S, q⟩, fun m σ H ⟨r, t, h, Y, S, q⟩ => ?_⟩
    cases m with
    | zero => exact q.elim
    | succ m =>
      refine (rs_bind (rel := relB) Y S q).mono fun v H1 ⟨r1, h1, d, e1, Y1, S1, rv, q1⟩ => ?_
      have rv : v = d := rv
      subst rv
      cases v with
      | true =>
        rw [if_pos rfl] at q1 ⊢
        exact ⟨_, fun σ' H' n => ⟨m, Nat.lt_succ_self m, n⟩, r1, t, h1, Y1, S1, turn_of q1 fun σ' r' t' h' H' Y' S' q' _ => ⟨r', t', h', Y', S', q'⟩⟩
      | false =>
        rw [if_neg (by decide)] at q1 ⊢
        exact q1.nx Y1 S1
theorem ds_for {it tg : Expr} {b : List Stmt} {mi : MI} {g : Tg} {mb : MS} {pos} (hp : PassesOwn (model X.prog X.w) X.A X.env X.xe) (hc : X.calm = true) (h0 : DI X CL W c tg it mi) (hg : DG X tg g) (h1 : DSs X CL W c b mb) (hs : ∀ x, foldedSetIterable it X.env x = pure x) :
    DS X CL W c (.For tg it b [] pos) (sFor mi g mb) :=
  psimp (ps_for hp hc h0 hg h1 hs) fun E σ H ⟨r, t, h, Y, S, q⟩ => (rs_bind (rel := relI X.K) Y S q).mono fun J H1 ⟨r1, h1, s, e1, Y1, S1, ⟨G, g0, walk, st, _⟩, q1⟩ => by
    refine ⟨fun i m σ H => m = s.items.length - i ∧ i ≤ s.items.length ∧ ∃ r t h, R X.K r h H ∧ Slots X.K H r σ t ∧ G r H ∧ rdS X.K CL W r H E (forL s (fun d t h => match asg g d t with
      | some t' => mb c t' h
      | none => .stuck) (s.items.drop i) t h), ⟨_, rfl, Nat.zero_le _, r1, t, h1, Y1, S1, g0, q1⟩, ?_⟩
    rintro i m σ H ⟨rfl, hi, r, t, h, Y, S, hG, q⟩
    by_cases hl : i < s.items.length
    · rw [List.drop_eq_getElem_cons hl] at q
      unfold forL at q
      by_cases ok : s.ok h
      · rw [if_pos ok] at q
        obtain ⟨go, yl⟩ := (walk i r h H Y hG ok).1 _ (List.getElem?_eq_getElem hl)
        refine .inr ⟨go, fun σ' H' => ∃ r' t' h', R X.K r' h' H' ∧ Slots X.K H' r' σ' t' ∧ G r' H' ∧ rdS X.K CL W r' H' E (forL s (fun d t h => match asg g d t with
          | some t' => mb c t' h
          | none => .stuck) (s.items.drop (i + 1)) t' h'), fun σ' H' n => ⟨_, by omega, rfl, hl, n⟩, fun x H' y => ?_⟩
        obtain ⟨rfl, rx⟩ := yl x H' y
        cases e : asg g s.items[i] t with
        | none => simp only [e] at q; exact q.elim
        | some t' =>
          simp only [e] at q
          refine ⟨r, t, h, _, t', Y, S, rx, e, fun σ' S' _ => ⟨r, t', h, Y, S', turn_of q fun σ2 r2 t2 h2 H2 Y2 S2 q2 x2 => ⟨r2, t2, h2, Y2, S2, ?_, q2⟩⟩⟩
          refine st r H' r2 h2 H2 hG x2 Y2 ?_
          cases hd : s.items.drop (i + 1) with
          | nil =>
            rw [hd] at q2
            unfold forL at q2
            by_cases ok2 : s.ok h2
            · exact ok2
            · rw [if_neg ok2] at q2; exact q2.elim
          | cons d ds =>
            rw [hd] at q2
            unfold forL at q2
            by_cases ok2 : s.ok h2
            · exact ok2
            · rw [if_neg ok2] at q2; exact q2.elim
      · rw [if_neg ok] at q; exact q.elim
    · have hd : s.items.drop i = [] := List.drop_eq_nil_of_le (by omega)
      rw [hd] at q
      unfold forL at q
      by_cases ok : s.ok h
      · rw [if_pos ok] at q
        exact .inl ⟨(walk i r h H Y hG ok).2 (by omega), q.nx Y S⟩
      · rw [if_neg ok] at q; exact q.elim
/-! ### o[i] = e -/
theorem set_any {K : PySem.W.Frag} {r : Rho} {H : Hp} {h : Hd} {a : Addr} {i j : Nat} {xs : List D} {vs : List V} {v : V} {d : D} (Y : R K r h H) (f : r.l[i]? = some (some a)) (k : RepA K H r vs xs) (rv : Rep K H r v d) :
    R K r (h.set i (.lst (xs.set j d))) (upd H a (.lst (vs.set j v))) ∧ Ext r H r (upd H a (.lst (vs.set j v))) := by
  have x : Ext r H r (upd H a (.lst (vs.set j v))) := Ext.wrote Y (List.mem_iff_getElem?.mpr ⟨i, f⟩)
  exact ⟨Y.wrote f ⟨_, upd_same, (k.set rv j).mono x⟩, x⟩
end
end Ev

/-! Ev8: list comprehensions. -/
namespace Ev
open PySem L2

def wipeT (t : Tau) : List Nat → Tau
  | [] => t
  | v :: vs => (wipeT t vs).set v none
/-- within a comprehension nothing may raise -/
def noX {α : Type} : Res α → Res α
  | .ok a h => .ok a h
  | _ => .stuck
open Classical in
noncomputable def compL (s : Src) (step : D → Hd → Res (Option D)) : List D → Hd → Res (List D)
  | [], h => if s.ok h then .ok [] h else .stuck
  | d :: ds, h => if s.ok h then (step d h).bind fun o h1 => (compL s step ds h1).bind fun l h2 => .ok (o.toList ++ l) h2 else .stuck
def stepC (c : Calls) (t : Tau) (g : Tg) (k : MB) (e : M) (d : D) (h : Hd) : Res (Option D) :=
  match asg g d t with
  | some t' => noX ((k c t' h).bind fun z h1 => if z then (e c t' h1).bind fun y h2 => .ok (some y) h2 else .ok none h1)
  | none => .stuck
noncomputable def mComp (b : Bool) (it : MI) (g : Tg) (own : List Nat) (k : MB) (e : M) : M := fun c t h =>
  (it c t h).bind fun s h1 => (compL s (stepC c (wipeT t own) g k e) s.items h1).bind fun ys h2 => fresh b ys h2
def tYesM : MB := fun _ _ h => .ok true h

section
variable {X : Cx} {CL : List XC} {W : WX} {c : Calls}
theorem Slots.wipe {K : PySem.W.Frag} {H : Hp} {r : Rho} {σ : L2.St} {t : Tau} (s : Slots K H r σ t) : ∀ vs : List Nat, Slots K H r (wipe σ vs) (wipeT t vs)
  | [] => s
  | v :: vs => (Slots.wipe s vs).none v
theorem wipe_get (σ : L2.St) (j : Nat) : ∀ vs : List Nat, j ∉ vs → (wipe σ vs)[j]? = σ[j]?
  | [], _ => rfl
  | v :: vs, n => by
    unfold wipe
    rw [List.getElem?_set_ne (by rintro rfl; exact n List.mem_cons_self)]
    exact wipe_get σ j vs fun m => n (List.mem_cons_of_mem _ m)
theorem wipe_own (σ : L2.St) (j : Nat) (hl : j < σ.length) : ∀ vs : List Nat, j ∈ vs → (wipe σ vs)[j]? = some none
  | [], m => by cases m
  | v :: vs, m => by
    unfold wipe
    by_cases e : v = j
    · subst e
      rw [List.getElem?_set_self (by rw [wipe_length]; exact hl)]
    · rw [List.getElem?_set_ne e]
      rcases List.mem_cons.mp m with z | z
      · exact (e z.symm).elim
      · exact wipe_own σ j hl vs z
theorem wipe_but {is vs : List Nat} {σ σ2 : L2.St} (b : But is (wipe σ vs) σ2) (h : ∀ i ∈ is, i ∈ vs) : wipe σ2 vs = wipe σ vs := by
  have hl : σ2.length = σ.length := by rw [b.1, wipe_length]
  apply List.ext_getElem?
  intro j
  by_cases m : j ∈ vs
  · by_cases hj : j < σ.length
    · rw [wipe_own σ2 j (by omega) vs m, wipe_own σ j hj vs m]
    · rw [List.getElem?_eq_none (by rw [wipe_length]; omega), List.getElem?_eq_none (by rw [wipe_length]; omega)]
  · rw [wipe_get _ _ _ m, b.2 j (fun z => m (h j z))]
abbrev W0 : WX := fun _ _ _ _ => False
abbrev BlkP (X : Cx) (scope : Scope) (P : Cx → Prop) : Prop := ∀ (s : Shared) (H : Hp) (C : Addr) (cl : List (Str × Addr)) (fp : List Addr), P (X.blk s H scope (compEnvC scope cl C X.env) fp)
/-- behind a turn -/
theorem noX_ok {K : PySem.W.Frag} {α β : Type} {rel : Rl β α} {r : Rho} {H : Hp} {σ : L2.St} {Q : β → Hp → Prop} {x : Res α} {γ : Type} {k : α → Hd → Res γ} {β' : Type} {rel' : Rl β' γ} {Q' : β' → Hp → Prop}
    (q : rdK K CL W rel' r H σ Q' ((noX x).bind k)) (i : ∀ a h', x = .ok a h' → rdK K CL W rel' r H σ Q' (k a h') → rdK K CL W0 rel r H σ Q (.ok a h')) : rdK K CL W0 rel r H σ Q x := by
  cases x with
  | ok a h' => exact i a h' rfl q
  | exn a b h' => exact q.elim
  | stuck => exact q.elim
theorem rdK_split {K : PySem.W.Frag} {α β : Type} {rel : Rl β α} {r : Rho} {H : Hp} {h : Hd} {t : Tau} {σ : L2.St} {Q : β → Hp → Prop} {m : Calls → Tau → Hd → Res α} (x : R K r h H) (s : Slots K H r σ t) (q : rdK K CL W rel r H σ Q (m c t h)) : rd K CL W rel c m σ H Q := ⟨r, t, h, x, s, q⟩
theorem noX_noexn {α : Type} {x : Res α} {a : Nat} {b : List D} {c : Hd} : noX x ≠ .exn a b c := by cases x <;> (intro z; cases z)
theorem comp_noexn {s : Src} {c : Calls} {t : Tau} {g : Tg} {k : MB} {e : M} : ∀ {ds : List D} {h : Hd} {a : Nat} {b : List D} {h' : Hd}, compL s (stepC c t g k e) ds h = .exn a b h' → False
  | [], h, a, b, h', q => by
    unfold compL at q
    by_cases ok : s.ok h
    · rw [if_pos ok] at q; cases q
    · rw [if_neg ok] at q; cases q
  | d :: ds, h, a, b, h', q => by
    unfold compL at q
    by_cases ok : s.ok h
    · rw [if_pos ok] at q
      cases e1 : stepC c t g k e d h with
      | exn a b c =>
        unfold stepC at e1
        split at e1
        · exact noX_noexn e1
        · cases e1
      | stuck => rw [e1] at q; cases q
      | ok o h1 =>
        rw [e1] at q
        have q : ((compL s (stepC c t g k e) ds h1).bind fun l h2 => .ok (o.toList ++ l) h2) = .exn a b h' := q
        cases e2 : compL s (stepC c t g k e) ds h1 with
        | exn a b c => exact comp_noexn e2
        | stuck => rw [e2] at q; cases q
        | ok o h1 => rw [e2] at q; cases q
    · rw [if_neg ok] at q; cases q
theorem comp_core {σ : L2.St} {H1 : Hp} {Q : VK} {J : It} {r1 : Rho} {h1 : Hd} {t : Tau} {s : Src} {g : Tg} {vs : List Nat} {mk : MB} {me : M} {b : Bool} (Y1 : R X.K r1 h1 H1) (S1 : Slots X.K H1 r1 σ t) (rI : relI X.K H1 r1 J s) (ho : ∀ i ∈ g.own, i ∈ vs)
    (q1 : rdK X.K CL W (relD X.K) r1 H1 σ Q ((compL s (stepC c (wipeT t vs) g mk me) s.items h1).bind fun ys h2 => fresh b ys h2)) (p : Addr) (np : H1 p = none) :
    ∃ W' : Nat → Nat → Hp → Prop, (∃ m, W' 0 m (upd H1 p (.lst []))) ∧ ∀ i m H, W' i m H → (J.stop i H ∧ Q (.ref p) H) ∨ (J.go i H ∧ ∃ Nx : Hp → Prop, (∀ H', Nx H' → ∃ m', m' < m ∧ W' (i + 1) m' H') ∧ ∀ x H', J.yld i H x H' →
      TGD X.K g x (wipe σ vs) H' fun σ2 H2 => wipe σ2 vs = wipe σ vs ∧ rd X.K CL W0 relB c mk σ2 H2 fun b H3 =>
        if b = true then rd X.K CL W0 (relD X.K) c me σ2 H3 fun y H4 => ∃ acc, H4 p = some (.lst acc) ∧ acc.length < sizeLine ∧ Nx (upd H4 p (.lst (acc ++ [y]))) else Nx H3) := by
  obtain ⟨G, g0, walk, st, sf⟩ := rI
  refine ⟨fun i m H => m = s.items.length - i ∧ i ≤ s.items.length ∧ ∃ r h acc us, R X.K r h H ∧ (r.hid = p :: r1.hid ∧ Ext r1 H1 ⟨r.l, r1.hid⟩ H) ∧ Slots X.K H r σ t ∧ G r H ∧ H p = some (.lst us) ∧ RepA X.K H r us acc ∧
      rdK X.K CL W (relD X.K) r1 H1 σ Q ((compL s (stepC c (wipeT t vs) g mk me) (s.items.drop i) h).bind fun ys h2 => fresh b (acc ++ ys) h2), ⟨_, rfl, Nat.zero_le _, r1.hide p, h1, [], [], Y1.hide np, ⟨rfl, Ext.laid np⟩, S1.shift (Shift.hide np), sf _ _ _ _ g0 (Shift.hide np), upd_same, .nil, q1⟩, ?_⟩
  rintro i m H ⟨rfl, hi, r, h, acc, us, Y, ⟨hr, x⟩, S, hG, hp, ra, q⟩
  have hid : p ∈ r.hid := by rw [hr]; exact List.mem_cons_self
  have pn : some p ∉ r.l := (Y.hid p hid).2
  have np' : ¬ (⟨r.l, r1.hid⟩ : Rho).has p := fun z => by
    rcases z with z | z
    · exact pn z
    · exact (Y1.hid p z).1 np
  have ms : ∀ a ∈ r1.hid, a ∈ r.hid := fun a m => by rw [hr]; exact List.mem_cons_of_mem _ m
  by_cases hl : i < s.items.length
  · rw [List.drop_eq_getElem_cons hl] at q
    unfold compL at q
    by_cases ok : s.ok h
    · rw [if_pos ok] at q
      obtain ⟨go, yl⟩ := (walk i r h H Y hG ok).1 _ (List.getElem?_eq_getElem hl)
      refine .inr ⟨go, _, fun H' n => ⟨s.items.length - (i + 1), by omega, rfl, hl, n⟩, fun z H' y => ?_⟩
      obtain ⟨rfl, rx⟩ := yl z H' y
      unfold stepC at q
      cases e : asg g s.items[i] (wipeT t vs) with
      | none => simp only [e] at q; exact q.elim
      | some t' =>
        simp only [e] at q
        refine ⟨r, wipeT t vs, h, _, t', Y, S.wipe vs, rx, e, fun σ2 S2 bt => ⟨wipe_but bt ho, r, t', h, Y, S2, ?_⟩⟩
        -- what goes on behind the turn
        have okn : ∀ {r3 : Rho} {h3 : Hd} {acc' : List D}, rdK X.K CL W (relD X.K) r1 H1 σ Q ((compL s (stepC c (wipeT t vs) g mk me) (s.items.drop (i + 1)) h3).bind fun ys h2 => fresh b (acc' ++ ys) h2) → s.ok h3 := fun {r3 h3 acc'} q3 => by
          cases hd : s.items.drop (i + 1) with
          | nil =>
            rw [hd] at q3
            unfold compL at q3
            by_cases ok2 : s.ok h3
            · exact ok2
            · rw [if_neg ok2] at q3; exact q3.elim
          | cons d ds =>
            rw [hd] at q3
            unfold compL at q3
            by_cases ok2 : s.ok h3
            · exact ok2
            · rw [if_neg ok2] at q3; exact q3.elim
        have asc : ∀ (y : Res (List D)) (l : List D), ((y.bind fun a h => .ok (l ++ a) h).bind fun ys h2 => fresh b (acc ++ ys) h2) = y.bind fun ys h2 => fresh b ((acc ++ l) ++ ys) h2 := fun y l => by
          cases y with
          | ok a h => simp only [Res.bind, List.append_assoc]
          | exn a b c => rfl
          | stuck => rfl
        cases e1 : mk c t' h with
        | exn a b c => rw [e1] at q; exact q.elim
        | stuck => rw [e1] at q; exact q.elim
        | ok z h3 =>
          rw [e1] at q
          intro v r3 H3 x3 Y3 rv
          have rv : v = z := rv
          subst rv
          have hid3 : p ∈ r3.hid := by rw [x3.hid]; exact hid
          cases v with
          | false =>
            have q : rdK X.K CL W (relD X.K) r1 H1 σ Q (((compL s (stepC c (wipeT t vs) g mk me) (s.items.drop (i + 1)) h3).bind fun l h2 => .ok ([] ++ l) h2).bind fun ys h2 => fresh b (acc ++ ys) h2) := q
            rw [asc, List.append_nil] at q
            refine ⟨r3, h3, acc, us, Y3, ⟨x3.hid.trans hr, ?_⟩, S.mono x3, st r _ r3 h3 H3 hG x3 Y3 (okn (r3 := r3) q), x3.hkeep p _ hid hp, ra.mono x3, q⟩
            have z := Ext.through (u := .lst us) np x hr x3
            have e : upd H3 p (.lst us) = H3 := by
              funext a
              by_cases ea : a = p
              · subst ea; rw [upd_same]; exact (x3.hkeep _ _ hid hp).symm
              · rw [upd_ne ea]
            rw [e] at z
            exact z
          | true =>
            refine ⟨r3, t', h3, Y3, S2.mono x3, ?_⟩
            have q : rdK X.K CL W (relD X.K) r1 H1 σ Q (((noX ((me c t' h3).bind fun y h2 => .ok (some y) h2)).bind fun o h1 => (compL s (stepC c (wipeT t vs) g mk me) (s.items.drop (i + 1)) h1).bind fun l h2 => .ok (o.toList ++ l) h2).bind fun ys h2 => fresh b (acc ++ ys) h2) := q
            cases e2 : me c t' h3 with
            | exn a b c => rw [e2] at q; exact q.elim
            | stuck => rw [e2] at q; exact q.elim
            | ok y h4 =>
              rw [e2] at q
              intro v r4 H4 x4 Y4 rv
              have q : rdK X.K CL W (relD X.K) r1 H1 σ Q (((compL s (stepC c (wipeT t vs) g mk me) (s.items.drop (i + 1)) h4).bind fun l h2 => .ok ([y] ++ l) h2).bind fun ys h2 => fresh b (acc ++ ys) h2) := q
              rw [asc] at q
              have x34 := x3.trans x4
              have hid4 : p ∈ r4.hid := by rw [x34.hid]; exact hid
              have hp4 := x34.hkeep p _ hid hp
              have hlen : us.length < sizeLine := by
                rw [ra.len]
                cases e3 : compL s (stepC c (wipeT t vs) g mk me) (s.items.drop (i + 1)) h4 with
                | ok ys h5 =>
                  rw [e3] at q
                  have := fresh_len (fresh_ok (m := b) q)
                  simp only [List.length_append, List.length_cons, List.length_nil] at this
                  omega
                | exn a b c => rw [e3] at q; exact (comp_noexn e3).elim
                | stuck => rw [e3] at q; exact q.elim
              refine ⟨us, hp4, hlen, r4, h4, acc ++ [y], us ++ [v], Y4.side hid4, ⟨x34.hid.trans hr, Ext.through np x hr x34⟩, (S.mono x34).shift (Shift.wrote hid4), sf _ _ _ _ (st r _ r4 h4 H4 hG x34 Y4 (okn (r3 := r4) q)) (Shift.wrote hid4), upd_same, ?_, q⟩
              exact ((ra.mono x34).app (.cons rv .nil)).shift (Shift.wrote hid4)
    · rw [if_neg ok] at q; exact q.elim
  · have hd : s.items.drop i = [] := List.drop_eq_nil_of_le (by omega)
    rw [hd] at q
    unfold compL at q
    by_cases ok : s.ok h
    · rw [if_pos ok] at q
      refine .inl ⟨(walk i r h H Y hG ok).2 (by omega), ?_⟩
      have xu := x
      have q : rdK X.K CL W (relD X.K) r1 H1 σ Q (fresh b (acc ++ []) h) := q
      rw [List.append_nil] at q
      have q2 := fresh_ok q
      have hz := fresh_len q2
      have ru := ra.shift (Shift.bare ms)
      unfold fresh at q2
      rw [if_pos hz] at q2
      cases b with
      | false =>
        rw [if_neg (by decide)] at q2
        exact q2 _ _ H xu (Y.bare ms) (.lst ⟨hp, np'⟩ ru)
      | true =>
        rw [if_pos rfl] at q2
        have sh : Shift r H (Rho.add ⟨r.l, r1.hid⟩ p) H := Shift.out hid ms
        refine q2 _ (Rho.add ⟨r.l, r1.hid⟩ p) H (xu.out np) (Y.adopt (r0 := ⟨r.l, r1.hid⟩) pn rfl (fun a m => ⟨ms a m, fun e => (Y1.hid a m).1 (by rw [e]; exact np)⟩) (fun a o ho => ho.shift sh rfl) ⟨us, hp, ra.shift sh⟩) (.ref ?_)
        show (r.l ++ [some p])[h.length]? = _
        rw [← Y.len, List.getElem?_append_right (Nat.le_refl _)]; simp
    · rw [if_neg ok] at q; exact q.elim
theorem de_comp {elt tg iter : Expr} {ifs : List Expr} {scope : Scope} {own : List (Str × Nat)} {pos : Pos} {mi : MI} {g : Tg} {mk : MB} {me : M} {b : Bool} (hc : X.calm = true) (hN : X.N.Nodup) (hi : DI X CL W c tg iter mi) (ok : BlkOk X.N X.env.scope scope own)
    (hg : BlkP X scope fun X' => DG X' tg g) (hk : BlkP X scope fun X' => PTs X' ifs (rd X.K CL W0 relB c mk)) (he : BlkP X scope fun X' => DE X' CL W0 c elt me) (ho : ∀ i ∈ g.own, i ∈ own.map (·.2)) (hs : ∀ x, foldedSetIterable iter X.env x = pure x) :
    DE X CL W c (.ListComp elt [⟨tg, iter, ifs, 0⟩] scope pos) (mComp b mi g (own.map (·.2)) mk me) :=
  pimp (pe_lc (g := TGD X.K g) (tt := rd X.K CL W0 relB c mk) (te := rd X.K CL W0 (relD X.K) c me) hc hN hi ok hg hk he hs) fun σ H Q ⟨r, t, h, Y, S, q⟩ => (rd_bind (rel1 := relI X.K) Y S q).mono fun J H1 ⟨r1, h1, s, e1, Y1, S1, rI, q1⟩ => fun p np =>
    comp_core Y1 S1 rI ho q1 p np
end
end Ev

/-! Ev9: methods of lists, tuples, dicts, texts; o[i] = e. -/
namespace Ev
open PySem L2

inductive Kd where
  | list | tuple | dict | str
  deriving DecidableEq
def Kd.T : Kd → String
  | .list => "list"
  | .tuple => "tuple"
  | .dict => "dict"
  | .str => "str"
def kindOf (d : D) (h : Hd) : Option Kd :=
  match d with
  | .lst _ => some .list
  | .scr _ => some .list
  | .tup _ => some .tuple
  | .str _ => some .str
  | .ref i => match h[i]? with
    | some (.lst _) => some .list
    | some (.dict _) => some .dict
    | _ => none
  | _ => none
abbrev FM := D → List D → Hd → Res D
def mMt (fs : Kd → Option FM) (o : M) (l : ML) : M := fun c t h => (o c t h).bind fun x h1 => match kindOf x h1 with
  | none => .stuck
  | some k => match fs k with
    | none => .stuck
    | some f => (l c t h1).bind fun ds h2 => f x ds h2
/-- an open list's items -/
def D.open? (h : Hd) : D → Option (Nat × List D)
  | .ref i => match h[i]? with
    | some (.lst xs) => some (i, xs)
    | _ => none
  | _ => none
def fAppend : FM := fun d ds h => match d.open? h, ds with
  | some (i, xs), [y] => if xs.length < sizeLine then .ok .non (h.set i (.lst (xs ++ [y]))) else .stuck
  | _, _ => .stuck
def fExtend : FM := fun d ds h => match d.open? h, ds with
  | some (i, xs), [y] => match y with
    | .tup ys => if xs.length + ys.length ≤ sizeLine then .ok .non (h.set i (.lst (xs ++ ys))) else .stuck
    | y => match y.items? h with
      | some ys => if xs.length + ys.length ≤ sizeLine then .ok .non (h.set i (.lst (xs ++ ys))) else .stuck
      | none => .stuck
  | _, _ => .stuck
def fPop : FM := fun d ds h => match d.open? h, ds with
  | some (i, xs), [] => match xs[xs.length - 1]? with
    | some y => .ok y (h.set i (.lst xs.dropLast))
    | none => .stuck
  | some (i, xs), [.int n] => match ixI xs.length n with
    | some j => match xs[j]? with
      | some y => .ok y (h.set i (.lst (xs.eraseIdx j)))
      | none => .stuck
    | none => .stuck
  | _, _ => .stuck
def fInsert : FM := fun d ds h => match d.open? h, ds with
  | some (i, xs), [.int n, y] => if xs.length < sizeLine ∧ 0 ≤ n ∧ n < 2 ^ 62 then .ok .non (h.set i (.lst (xs.take n.toNat ++ [y] ++ xs.drop n.toNat))) else .stuck
  | _, _ => .stuck
def fReverse : FM := fun d ds h => match d.open? h, ds with
  | some (i, xs), [] => .ok .non (h.set i (.lst xs.reverse))
  | _, _ => .stuck
def fClear : FM := fun d ds h => match d.open? h, ds with
  | some (i, xs), [] => .ok .non (h.set i (.lst []))
  | _, _ => .stuck
/-- the place of an equal one -/
def placeOf (xs : List D) (d : D) : Nat := (xs.map fun z => D.eqv z d).idxOf true
def fIndex : FM := fun d ds h => match ds with
  | [y] => match d.see h with
    | .lst xs => if cmpOk y (.lst xs) ∧ D.has xs y then .ok (.int (placeOf xs y : Nat)) h else .stuck
    | .scr xs => if cmpOk y (.scr xs) ∧ D.has xs y then .ok (.int (placeOf xs y : Nat)) h else .stuck
    | .tup xs => if cmpOk y (.tup xs) ∧ D.has xs y then .ok (.int (placeOf xs y : Nat)) h else .stuck
    | _ => .stuck
  | _ => .stuck
def fGet : FM := fun d ds h => match d.dict? h, ds with
  | some es, [k] => if keyOk k then .ok ((getD es k).getD .non) h else .stuck
  | some es, [k, x] => if keyOk k then .ok ((getD es k).getD x) h else .stuck
  | _, _ => .stuck
def strsOf : List D → Option (List (List Nat))
  | [] => some []
  | .str s :: r => (strsOf r).map (s :: ·)
  | _ :: _ => none
def joinD (s : List Nat) : List (List Nat) → List Nat
  | [] => []
  | [p] => p
  | p :: q :: r => p ++ (s ++ joinD s (q :: r))
def fJoin : FM := fun d ds h => match d, ds with
  | .str s, [y] => match y.see h with
    | .lst xs => match strsOf xs with
      | some ys => if (ys.map List.length).sum + ys.length * s.length ≤ 1000000 then .ok (.str (joinD s ys)) h else .stuck
      | none => .stuck
    | .tup xs => match strsOf xs with
      | some ys => if (ys.map List.length).sum + ys.length * s.length ≤ 1000000 then .ok (.str (joinD s ys)) h else .stuck
      | none => .stuck
    | _ => .stuck
  | _, _ => .stuck

section
variable {X : Cx} {CL : List XC} {W : WX} {c : Calls}
/-- a method's rule by values -/
def MtE (X : Cx) (id : String) (f : FM) : Prop :=
  ∀ (pins : List (Addr × Obj)) (s : Shared) (σ : L2.St) (H : Hp) (x : V) (xs : List V) (v : Value) (us : List Value) (Q : VK), Inv X pins σ H s → RelV x v → Vals xs us →
    (∃ r h d ds, R X.K r h H ∧ Rep X.K H r x d ∧ RepA X.K H r xs ds ∧ okK X.K (relD X.K) r H Q (f d ds h)) → wpAny (model X.prog X.w) X.A (call (.builtin id) (v :: us)) (EP X pins σ Q) X.xe s
structure Mth (X : Cx) (name : Str) (k : Kd) (f : FM) : Prop where
  calm : ∀ d ds h c fs h', f d ds h ≠ .exn c fs h'
  ex : ∃ id, PlainAttrs k.T ∧ Slot k.T name id ∧ typeOf (.builtin id) = pure (.type "method_descriptor") ∧ MtE X id f
theorem kind_is {pins : List (Addr × Obj)} {σ : L2.St} {H : Hp} {s : Shared} {x : V} {v : Value} {r : Rho} {h : Hd} {d : D} {k : Kd} (I : Inv X pins σ H s) (rv : RelV x v) (Y : R X.K r h H) (rp : Rep X.K H r x d) (e : kindOf d h = some k) :
    s.TypeIs v k.T ∧ ∀ a, v = .ref a → ∃ ob, s.heap.get? a = some ob ∧ ob.dict = none := by
  have lists : ∀ {a vs}, SqL X.K H a vs → s.TypeIs (.ref a) "list" ∧ ∀ b, Value.ref a = .ref b → ∃ ob, s.heap.get? b = some ob ∧ ob.dict = none := fun {a vs} f => tyV_is (x := .ref a) I rfl (.inl ⟨rfl, vs, f⟩)
  cases d with
  | lst xs => cases e; cases rp with | lst f _ => cases rv; exact lists (FzL.seq f)
  | scr xs => cases e; cases rp with | scr f _ => cases rv; exact lists f.seq
  | str z =>
    cases e
    obtain ⟨y, rfl, _, _⟩ := rep_str rp
    exact tyV_is (x := .str y) I rv rfl
  | tup xs =>
    cases e
    cases rp with
    | tup f _ =>
      cases rv
      rcases f with ⟨o, f, ⟨its, n, eo⟩, _⟩ | ⟨f, o, lk, ⟨its, n, eo⟩⟩
      · obtain ⟨g, _⟩ := I.hok _ _ f
        refine ⟨⟨o, g, by rw [eo]; rfl⟩, fun b eb => ?_⟩
        cases eb
        exact ⟨o, g, by rw [eo]⟩
      · have g := I.kIn _ _ lk
        refine ⟨⟨o, g, by rw [eo]; rfl⟩, fun b eb => ?_⟩
        cases eb
        exact ⟨o, g, by rw [eo]⟩
  | ref i =>
    have e : (match h[i]? with | some (.lst _) => some Kd.list | some (.dict _) => some Kd.dict | _ => none) = some k := e
    split at e
    · rename_i xs e1
      cases e
      obtain ⟨a, vs, rfl, h1, _⟩ := items_at Y rp (xs := xs) (by unfold D.items?; simp only [e1])
      cases rv
      exact lists (.inl (.inl h1))
    · rename_i es e1
      cases e
      obtain ⟨a, j, kvs, rfl, _, _, _, h1, _⟩ := dict_at Y rp (es := es) (by unfold D.dict?; simp only [e1])
      cases rv
      exact tyV_is (x := .ref a) I rfl (.inr (.inr (.inl ⟨rfl, .inl ⟨kvs, h1⟩⟩)))
    · cases e
  | _ => cases e
theorem de_meth {name : Str} {fs : Kd → Option FM} {o e : Expr} {es : List Expr} {mo : M} {l : ML} {apos cpos : Pos} (hm : ∀ k f, fs k = some f → Mth X name k f) (ho : DE X CL W c o mo) (ha : DA X CL W c (e :: es) l) (hbase : attributeBase o name X.env (eval o X.env) = eval o X.env)
    (hfew : ((backTo cpos (starEach (e :: es) X.env)).all (fun x => !x.1) && (backToKw cpos (keywordEach [] X.env)).all (fun x => x.1.isSome) && decide ((e :: es).length + ([] : List Keyword).length + (if ([] : List Keyword).isEmpty then 0 else 1) < 30)) = true)
    (hline : (apos.endLine == cpos.line) = true) (hs : starEach (e :: es) X.env = (false, eval e X.env) :: starEach es X.env) (hplain : (backTo cpos (starEach es X.env)).any (·.1) = false) : DE X CL W c (.Call (.Attribute o name apos) (e :: es) [] cpos) (mMt fs mo l) := by
  refine ⟨fun pins s σ H Q I ⟨r, t, h, Y, S, q⟩ => ?_⟩
  refine wpAny_Call_method_late hbase hfew hline rfl (thn (ho.run pins s σ H _ I (rd_bind (rel1 := relD X.K) Y S q)) fun v s1 ⟨x, H1, I1, rx, r1, h1, d, e1, Y1, S1, rv, q1⟩ => ?_)
  cases e2 : kindOf d h1 with
  | none => rw [e2] at q1; exact q1.elim
  | some k =>
    rw [e2] at q1
    cases e3 : fs k with
    | none => simp only [e3] at q1; exact q1.elim
    | some f =>
      simp only [e3] at q1
      obtain ⟨cm, id, pa, slot, hty, rule⟩ := hm k f e3
      obtain ⟨k1, k2⟩ := kind_is I1 rx Y1 rv e2
      refine ⟨k.T, id, pa, slot, hty, k1, k2, ?_⟩
      have hA := ha.run cpos pins s1 σ H1 _ I1 (rd_bind (rel1 := relA X.K) Y1 S1 q1)
      rw [hs] at hA ⊢
      refine Calls.callWith_builtin (by show (false || (backTo cpos (starEach es X.env)).any (·.1)) = false; rw [hplain] <;> rfl) (Calls.evalArgs_plain ?_)
      refine thn hA fun us s2 ⟨vs, H2, I2, rvs, r2, h2, ds, e4, Y2, S2, ra, q2⟩ => ?_
      exact rule pins s2 σ H2 x vs v us Q I2 rx rvs ⟨r2, h2, d, ds, Y2, rv.mono e4, ra, q2.okK (cm _ _ _)⟩
theorem de_meth0 {name : Str} {fs : Kd → Option FM} {o : Expr} {mo : M} {apos cpos : Pos} (hm : ∀ k f, fs k = some f → Mth X name k f) (ho : DE X CL W c o mo) (hbase : attributeBase o name X.env (eval o X.env) = eval o X.env)
    (hline : (apos.endLine == cpos.line) = true) : DE X CL W c (.Call (.Attribute o name apos) [] [] cpos) (mMt fs mo aNil) := by
  refine ⟨fun pins s σ H Q I ⟨r, t, h, Y, S, q⟩ => ?_⟩
  refine wpAny_Call_method0_late hbase hline (thn (ho.run pins s σ H _ I (rd_bind (rel1 := relD X.K) Y S q)) fun v s1 ⟨x, H1, I1, rx, r1, h1, d, e1, Y1, S1, rv, q1⟩ => ?_)
  cases e2 : kindOf d h1 with
  | none => rw [e2] at q1; exact q1.elim
  | some k =>
    rw [e2] at q1
    cases e3 : fs k with
    | none => simp only [e3] at q1; exact q1.elim
    | some f =>
      simp only [e3] at q1
      obtain ⟨cm, id, pa, slot, hty, rule⟩ := hm k f e3
      obtain ⟨k1, k2⟩ := kind_is I1 rx Y1 rv e2
      have q1 : rdK X.K CL W (relD X.K) r1 H1 σ Q (f d [] h1) := q1
      exact ⟨k.T, id, pa, slot, hty, k1, k2, Calls.callWith_builtin rfl (PySem.evalArgs_none (rule pins s1 σ H1 x [] v [] Q I1 rx .nil ⟨r1, h1, d, [], Y1, rv, .nil, q1.okK (cm _ _ _)⟩))⟩
theorem open_rep {K : PySem.W.Frag} {H : Hp} {r : Rho} {h : Hd} {v : V} {d : D} {i : Nat} {xs : List D} (Y : R K r h H) (q : Rep K H r v d) (e : d.open? h = some (i, xs)) : ∃ a vs, v = .ref a ∧ r.l[i]? = some (some a) ∧ H a = some (.lst vs) ∧ RepA K H r vs xs := by
  cases d with
  | ref j =>
    have e : (match h[j]? with | some (.lst xs) => some (j, xs) | _ => none) = some (i, xs) := e
    split at e
    · rename_i ys e1
      cases e
      cases q with
      | ref f =>
        obtain ⟨o, h1, h2⟩ := Y.get _ _ f
        rw [e1] at h1; cases h1
        obtain ⟨vs, h3, h4⟩ := h2
        exact ⟨_, vs, rfl, f, h3, h4⟩
      | dead f => have := Y.dead _ f; rw [e1] at this; cases this
    · cases e
  | _ => cases e
/-- an open list is given other items -/
theorem put_any {K : PySem.W.Frag} {r : Rho} {H : Hp} {h : Hd} {a : Addr} {i : Nat} {xs : List D} {vs : List V} (Y : R K r h H) (f : r.l[i]? = some (some a)) (k : RepA K H r vs xs) : R K r (h.set i (.lst xs)) (upd H a (.lst vs)) ∧ Ext r H r (upd H a (.lst vs)) := by
  have x : Ext r H r (upd H a (.lst vs)) := Ext.wrote Y (List.mem_iff_getElem?.mpr ⟨i, f⟩)
  exact ⟨Y.wrote f ⟨vs, upd_same, k.mono x⟩, x⟩
theorem me_append : MtE X "list.append" fAppend := by
  intro pins s σ H x xs v us Q I rx rv ⟨r, h, d, ds, Y, rp, ra, q⟩
  unfold fAppend at q
  split at q
  · rename_i i ys y e
    obtain ⟨hz, q⟩ := ok_of q
    obtain ⟨a, vs, rfl, f, h1, k⟩ := open_rep Y rp e
    cases ra with
    | cons ry rn =>
      cases rn
      have z := put_any Y f (k.app (.cons ry .nil))
      exact mt_append pins s σ H _ _ v us Q I rx rv ⟨a, vs, _, rfl, rfl, h1, by rw [k.len]; exact hz, q _ _ _ z.2 z.1 .non⟩
  · exact q.elim
theorem me_pop : MtE X "list.pop" fPop := by
  intro pins s σ H x xs v us Q I rx rv ⟨r, h, d, ds, Y, rp, ra, q⟩
  unfold fPop at q
  split at q
  · rename_i i ys e
    obtain ⟨a, vs, rfl, f, h1, k⟩ := open_rep Y rp e
    split at q
    · rename_i y e1
      cases ra
      obtain ⟨w, e2, rw'⟩ := k.get' e1
      rw [← k.len] at e2
      have kd : RepA X.K H r vs.dropLast ys.dropLast := by
        rw [List.dropLast_eq_take, List.dropLast_eq_take, k.len]
        exact k.take _
      have z := put_any Y f kd
      exact mt_pop pins s σ H _ _ v us Q I rx rv ⟨a, vs, w, rfl, rfl, h1, e2, q _ _ _ z.2 z.1 (rw'.mono z.2)⟩
    · exact q.elim
  · rename_i i ys n e
    obtain ⟨a, vs, rfl, f, h1, k⟩ := open_rep Y rp e
    split at q
    · rename_i j e1
      split at q
      · rename_i y e2
        cases ra with
        | cons ry rn =>
          cases rn
          cases ry
          obtain ⟨w, e3, rw'⟩ := k.get' e2
          have kd : RepA X.K H r (vs.eraseIdx j) (ys.eraseIdx j) := by
            rw [List.eraseIdx_eq_take_drop_succ, List.eraseIdx_eq_take_drop_succ]
            exact (k.take j).app (k.drop (j + 1))
          have z := put_any Y f kd
          have e1' : ixN vs.length n = some j := by rw [k.len]; exact e1
          obtain ⟨s1, s2, s3, s4⟩ := ixN_seq e1'
          have hz : vs.length ≤ sizeLine := (I.lstM h1).1
          rw [sizeLine_eq] at hz
          exact mt_popAt pins s σ H _ _ v us Q I rx rv ⟨a, vs, n, j, w, rfl, rfl, h1, by omega, by omega, s1, e3, q _ _ _ z.2 z.1 (rw'.mono z.2)⟩
      · exact q.elim
    · exact q.elim
  · exact q.elim
theorem me_insert : MtE X "list.insert" fInsert := by
  intro pins s σ H x xs v us Q I rx rv ⟨r, h, d, ds, Y, rp, ra, q⟩
  unfold fInsert at q
  split at q
  · rename_i i ys n y e
    obtain ⟨⟨c1, c2, c3⟩, q⟩ := ok_of q
    obtain ⟨a, vs, rfl, f, h1, k⟩ := open_rep Y rp e
    cases ra with
    | cons rn ra =>
      cases rn
      cases ra with
      | cons ry ra =>
        cases ra
        have z := put_any Y f (((k.take n.toNat).app (.cons ry .nil)).app (k.drop n.toNat))
        exact mt_insert pins s σ H _ _ v us Q I rx rv ⟨a, vs, n, _, rfl, rfl, h1, by rw [k.len]; exact c1, c2, by omega, q _ _ _ z.2 z.1 .non⟩
  · exact q.elim
theorem me_reverse : MtE X "list.reverse" fReverse := by
  intro pins s σ H x xs v us Q I rx rv ⟨r, h, d, ds, Y, rp, ra, q⟩
  unfold fReverse at q
  split at q
  · rename_i i ys e
    obtain ⟨a, vs, rfl, f, h1, k⟩ := open_rep Y rp e
    cases ra
    have z := put_any Y f k.rev
    exact mt_reverse pins s σ H _ _ v us Q I rx rv ⟨a, vs, rfl, rfl, h1, q _ _ _ z.2 z.1 .non⟩
  · exact q.elim
theorem me_clear : MtE X "list.clear" fClear := by
  intro pins s σ H x xs v us Q I rx rv ⟨r, h, d, ds, Y, rp, ra, q⟩
  unfold fClear at q
  split at q
  · rename_i i ys e
    obtain ⟨a, vs, rfl, f, h1, k⟩ := open_rep Y rp e
    cases ra
    have z := put_any Y f .nil
    exact mt_clear pins s σ H _ _ v us Q I rx rv ⟨a, vs, rfl, rfl, h1, q _ _ _ z.2 z.1 .non⟩
  · exact q.elim
/-- a plain tuple's object -/
theorem tup_obj {pins : List (Addr × Obj)} {σ : L2.St} {H : Hp} {s : Shared} {r : Rho} {a : Addr} {vs : List V} (I : Inv X pins σ H s) (f : FzT X.K H r a vs) : ∃ its n, Vals vs its ∧ s.heap.get? a = some { cls := .type "tuple", dict := none, data := .seq its.toArray n, slots := #[] } := by
  obtain ⟨its, rv, ⟨o, ho, hc, n, hd⟩, _⟩ := I.tuple f.seq
  have po : PlainT o := by
    rcases f with ⟨o', f, po, _⟩ | ⟨f, o', lk, po⟩
    · obtain ⟨g, _⟩ := I.hok _ _ f
      rw [g] at ho; cases ho; exact po
    · have g := I.kIn _ _ lk
      rw [g] at ho; cases ho; exact po
  obtain ⟨its', n', eo⟩ := po
  subst eo
  cases hd
  exact ⟨its, n, rv, ho⟩
theorem me_extend : MtE X "list.extend" fExtend := by
  intro pins s σ H x xs v us Q I rx rv ⟨r, h, d, ds, Y, rp, ra, q⟩
  unfold fExtend at q
  split at q
  · rename_i i ys y e
    obtain ⟨a, vs, rfl, f, h1, k⟩ := open_rep Y rp e
    cases ra with
    | cons ry rn =>
      cases rn
      split at q
      · rename_i zs
        obtain ⟨hz, q⟩ := ok_of q
        cases ry with
        | tup g l =>
          have z := put_any Y f (k.app l)
          cases rx
          obtain ⟨u, rfl, ru⟩ := vals1 rv
          cases ru
          obtain ⟨hz1, its, n, rr, hl, e1⟩ := I.lstM h1
          obtain ⟨its2, n2, rr2, e2⟩ := tup_obj I g
          have hl2 := rr2.length
          have kl := k.len
          have ll := l.len
          have hsz : its.toArray.size + its2.toArray.size ≤ sizeLine := by rw [List.size_toArray, List.size_toArray]; omega
          have hlong : ¬ (!its.toArray.isEmpty && Builtin.List.listTooLong (its.toArray.size + its2.toArray.size)) = true := by
            rw [L2.notLongL hsz, Bool.and_false]
            exact Bool.false_ne_true
          refine call_meets F.slot_list_extend ⟨_, e1, rfl⟩ F.entry_list_extend (F.args_list_extend_2 _ _)
            (AutoSeq1.list_extend_list_tuple_0 _ its.toArray n _ its2.toArray n2 hlong (by rw [List.size_toArray]; omega) (by omega)) ⟨e1, e2, ?_⟩
          refine ⟨.non, _, I.lset (its' := its ++ its2) h1 e1 (by simp) (rr.append rr2) ?_, rfl, q _ _ _ z.2 z.1 .non⟩
          rw [List.length_append]
          omega
      · split at q
        · rename_i zs e3
          obtain ⟨hz, q⟩ := ok_of q
          obtain ⟨b, ws, rfl, h2, l⟩ := items_at Y ry e3
          have z := put_any Y f (k.app l)
          exact mt_extend pins s σ H _ _ v us Q I rx rv ⟨a, b, vs, ws, rfl, rfl, h1, h2, by rw [k.len, l.len]; exact hz, q _ _ _ z.2 z.1 .non⟩
        · exact q.elim
  · exact q.elim
/-- what == answers at each place -/
theorem items_eq {pins : List (Addr × Obj)} {σ : L2.St} {H : Hp} {s : Shared} {r : Rho} {vs : List V} {its : List Value} {xs : List D} {y : V} {u : Value} {d : D} {A : Around} (I : Inv X pins σ H s) (hu : A.units + 560 < cLine) (k : RepA X.K H r vs xs) (rv : Vals vs its) (ry : Rep X.K H r y d) (ru : RelV y u)
    (p1 : d.plain = true) (p2 : D.plainA xs = true) (hn : min (D.depA xs) d.dep ≤ 500) : SeqAt.ItemsEq A.in1 s its (xs.map fun z => D.eqv z d) u true := by
  refine ⟨by rw [List.length_map, ← k.len, rv.length], fun j h1 h2 => ?_⟩
  have hj : j < xs.length := by simpa using h2
  have e1 : its[j]? = some its[j] := List.getElem?_eq_getElem h1
  have e2 : xs[j]? = some xs[j] := List.getElem?_eq_getElem hj
  obtain ⟨w, e3, rw'⟩ := k.get' e2
  obtain ⟨u', e4, ru'⟩ := rv.get e3
  rw [e1] at e4; cases e4
  have pj : xs[j].plain = true := plainA_iff.mp p2 _ (List.getElem_mem hj)
  obtain ⟨as, r1⟩ := Dp.reads I _ _ _ (rw'.dp pj) ru'
  obtain ⟨bs, r2⟩ := Dp.reads I _ _ _ (ry.dp p1) ru
  have dj : xs[j].dep ≤ D.depA xs := depA_get _ hj
  have z := SeqAt.eqAt_reads _ _ A.in1 s _ _ as bs r1 r2 rw'.lay ry.lay (by rw [toP_dep, toP_dep]; show A.units + 1 + _ < cLine; omega)
  rw [toP_eqv _ _ pj p1] at z
  rw [List.getElem_map]
  have e5 : decide (D.eqv xs[j] d = true) = D.eqv xs[j] d := by cases D.eqv xs[j] d <;> rfl
  rw [e5]
  exact z
theorem has_mem {xs : List D} {d : D} (h : D.has xs d = true) : true ∈ xs.map fun z => D.eqv z d := by
  unfold D.has at h
  rw [List.any_eq_true] at h
  obtain ⟨z, m, e⟩ := h
  exact List.mem_map.mpr ⟨z, m, e⟩
theorem cmp_seq {y : D} {xs : List D} {e : D} (h : cmpOk y e = true) (h1 : e = .lst xs ∨ e = .scr xs ∨ e = .tup xs) : y.plain = true ∧ D.plainA xs = true ∧ min (D.depA xs) y.dep ≤ 500 := by
  obtain ⟨p1, p2, nr⟩ := cmpOk_parts h
  have hn := near_room nr
  rw [toP_dep, toP_dep] at hn
  rcases h1 with rfl | rfl | rfl
  · simp only [D.dep] at hn
    exact ⟨p1, by simpa [D.plain] using p2, by omega⟩
  · simp only [D.dep] at hn
    exact ⟨p1, by simpa [D.plain] using p2, by omega⟩
  · simp only [D.dep] at hn
    exact ⟨p1, by simpa [D.plain] using p2, by omega⟩
theorem index_list {pins : List (Addr × Obj)} {σ : L2.St} {H : Hp} {s : Shared} {a : Addr} {vs : List V} {xs : List D} {r : Rho} {h : Hd} {Q : VK} {y : V} {u : Value} {d : D} (hu : X.A.units + 560 < cLine) (I : Inv X pins σ H s) (f : SqL X.K H a vs) (k : RepA X.K H r vs xs) (Y : R X.K r h H) (ry : Rep X.K H r y d) (ru : RelV y u)
    (c : d.plain = true ∧ D.plainA xs = true ∧ min (D.depA xs) d.dep ≤ 500) (hh : D.has xs d = true) (q : okK X.K (relD X.K) r H Q (.ok (.int (placeOf xs d : Nat)) h)) : wpAny (model X.prog X.w) X.A (call (.builtin "list.index") [.ref a, u]) (EP X pins σ Q) X.xe s := by
  obtain ⟨its, rv, pl, hz⟩ := I.list f
  exact SeqAt.call_list_index pl.isList (items_eq I hu k rv ry ru c.1 c.2.1 c.2.2) (by rw [List.length_map, ← k.len]; exact hz) (has_mem hh) ⟨.int _, H, I.tok _, ⟨_, rfl⟩, q.now Y (.int _)⟩
theorem me_index (hu : X.A.units + 560 < cLine) : MtE X "list.index" (fun d ds h => match kindOf d h with | some .list => fIndex d ds h | _ => .stuck) := by
  intro pins s σ H x xs v us Q I rx rv ⟨r, h, d, ds, Y, rp, ra, q⟩
  have q : okK X.K (relD X.K) r H Q (match kindOf d h with | some .list => fIndex d ds h | _ => .stuck) := q
  split at q
  · rename_i ek
    unfold fIndex at q
    split at q
    · cases ra with
      | cons ry rn =>
        cases rn
        obtain ⟨u, rfl, ru⟩ := vals1 rv
        split at q
        · rename_i ys e
          obtain ⟨⟨c, hh⟩, q⟩ := ok_of q
          obtain ⟨a, vs, rfl, h1, k⟩ := see_lst Y rp e
          cases rx
          exact index_list hu I (.inl (.inl h1)) k Y ry ru (cmp_seq c (.inl rfl)) hh q
        · rename_i ys e
          obtain ⟨⟨c, hh⟩, q⟩ := ok_of q
          obtain ⟨a, vs, rfl, h1, k⟩ := see_scr rp e
          cases rx
          exact index_list hu I h1 k Y ry ru (cmp_seq c (.inr (.inl rfl))) hh q
        · rename_i ys e
          exfalso
          rcases see_same e (fun _ z => nomatch z) with ⟨i, _, z⟩ | rfl
          · cases z
          · cases ek
        · exact q.elim
    · exact q.elim
  · exact q.elim
theorem me_tindex (hu : X.A.units + 560 < cLine) : MtE X "tuple.index" (fun d ds h => match kindOf d h with | some .tuple => fIndex d ds h | _ => .stuck) := by
  intro pins s σ H x xs v us Q I rx rv ⟨r, h, d, ds, Y, rp, ra, q⟩
  have q : okK X.K (relD X.K) r H Q (match kindOf d h with | some .tuple => fIndex d ds h | _ => .stuck) := q
  split at q
  · rename_i ek
    have ed : ∃ ys, d = .tup ys := by
      cases d with
      | tup ys => exact ⟨ys, rfl⟩
      | ref i =>
        have ek : (match h[i]? with | some (.lst _) => some Kd.list | some (.dict _) => some Kd.dict | _ => none) = some Kd.tuple := ek
        split at ek <;> cases ek
      | _ => cases ek
    obtain ⟨ys, rfl⟩ := ed
    unfold fIndex at q
    split at q
    · cases ra with
      | cons ry rn =>
        cases rn
        obtain ⟨u, rfl, ru⟩ := vals1 rv
        have q : okK X.K (relD X.K) r H Q (if cmpOk _ (.tup ys) ∧ D.has ys _ then .ok (.int (placeOf ys _ : Nat)) h else .stuck) := q
        obtain ⟨⟨c, hh⟩, q⟩ := ok_of q
        obtain ⟨c1, c2, c3⟩ := cmp_seq c (.inr (.inr rfl))
        cases rp with
        | tup f k =>
          cases rx
          obtain ⟨its, rv2, pl, hz⟩ := I.tuple f.seq
          exact SeqAt.call_tuple_index (show s.heap.IsTuple _ its.toArray from pl) (items_eq I hu k rv2 ry ru c1 c2 c3) (has_mem hh) ⟨.int _, H, I.tok _, ⟨_, rfl⟩, q.now Y (.int _)⟩
    · exact q.elim
  · exact q.elim
theorem me_get (hu : X.A.units + 560 < cLine) : MtE X "dict.get" fGet := by
  intro pins s σ H x xs v us Q I rx rv ⟨r, h, d, ds, Y, rp, ra, q⟩
  unfold fGet at q
  split at q
  · rename_i es k e
    obtain ⟨ko, q⟩ := ok_of q
    cases ra with
    | cons ry rn =>
      cases rn
      obtain ⟨u, rfl, ru⟩ := vals1 rv
      obtain ⟨a, rfl, o, g, go⟩ := get_at Y rp e ry ko
      cases rx
      refine d_get1 (by omega) I g ru fun w' s3 I3 rw' => ⟨_, H, I3, rw', ?_⟩
      rcases go with ⟨z, w, e2, e3, r3⟩ | ⟨e2, e3⟩
      · rw [e2]; rw [e3] at q; exact q.now Y r3
      · rw [e2]; rw [e3] at q; exact q.now Y .non
  · rename_i es k z e
    obtain ⟨ko, q⟩ := ok_of q
    cases ra with
    | cons ry rn =>
      cases rn with
      | cons rz rn =>
        cases rn
        obtain ⟨u1, u2, rfl, ru1, ru2⟩ := vals2 rv
        obtain ⟨a, rfl, o, g, go⟩ := get_at Y rp e ry ko
        cases rx
        refine d_get2 (by omega) I g ru1 ru2 fun w' s3 I3 rw' => ⟨_, H, I3, rw', ?_⟩
        rcases go with ⟨z, w, e2, e3, r3⟩ | ⟨e2, e3⟩
        · rw [e2]; rw [e3] at q; exact q.now Y r3
        · rw [e2]; rw [e3] at q; exact q.now Y rz
  · exact q.elim
/-- texts by their codes -/
theorem strs_rep {K : PySem.W.Frag} {H : Hp} {r : Rho} : ∀ {xs : List D} {vs : List V} {ys : List (List Nat)}, RepA K H r vs xs → strsOf xs = some ys → ∃ zs : List Str, vs = zs.map V.str ∧ zs.map (fun z => z.cps.toList) = ys ∧ ∀ z ∈ zs, SOk z
  | [], _, _, .nil, e => by cases e; exact ⟨[], rfl, rfl, fun _ m => by cases m⟩
  | d :: xs, _, ys, .cons q k, e => by
    cases d with
    | str s =>
      have e : (strsOf xs).map (s :: ·) = some ys := e
      cases e1 : strsOf xs with
      | none => rw [e1] at e; cases e
      | some l =>
        rw [e1] at e; cases e
        obtain ⟨z, rfl, e2, ok⟩ := rep_str q
        obtain ⟨zs, rfl, e3, oks⟩ := strs_rep k e1
        refine ⟨z :: zs, rfl, by rw [List.map_cons, e2, e3], fun w m => ?_⟩
        rcases List.mem_cons.mp m with rfl | m
        · exact ok
        · exact oks w m
    | _ => cases e
theorem joinD_eq (y : Str) : ∀ parts : List Str, (Str.join y parts).cps.toList = joinD y.cps.toList (parts.map fun z => z.cps.toList)
  | [] => rfl
  | [p] => rfl
  | p :: q :: r => by
    show (p ++ y ++ Str.join y (q :: r)).cps.toList = _
    have e : ∀ a b : Str, (a ++ b).cps.toList = a.cps.toList ++ b.cps.toList := fun a b => by
      show (a.cps ++ b.cps).toList = _
      rw [Array.toList_append]
    rw [e, e, joinD_eq y (q :: r), List.append_assoc]
    rfl
theorem join_ok {y : Str} (hy : PySem.PyData.strOk y = true) : ∀ {parts : List Str}, (∀ z ∈ parts, SOk z) → PySem.PyData.strOk (Str.join y parts) = true
  | [], _ => by show PySem.PyData.strOk Str.empty = true; decide +kernel
  | [p], h => (h p List.mem_cons_self).1
  | p :: q :: r, h => strOk_append (strOk_append (h p List.mem_cons_self).1 hy) (join_ok hy fun z m => h z (List.mem_cons_of_mem _ m))
theorem joinD_len (s : List Nat) : ∀ ys : List (List Nat), (joinD s ys).length ≤ (ys.map List.length).sum + ys.length * s.length
  | [] => by simp [joinD]
  | [p] => by simp [joinD]
  | p :: q :: r => by
    have ih := joinD_len s (q :: r)
    rw [joinD, List.length_append, List.length_append, List.map_cons, List.sum_cons, List.length_cons, Nat.succ_mul]
    omega
theorem me_join : MtE X "str.join" fJoin := by
  intro pins s σ H x xs v us Q I rx rv ⟨r, h, d, ds, Y, rp, ra, q⟩
  unfold fJoin at q
  split at q
  · rename_i sp y
    obtain ⟨z, rfl, rfl, oz⟩ := rep_str rp
    have core : ∀ {ws : List V} {ys zs : List D} {p : Addr} {ls : List (List Nat)}, RepA X.K H r ws ys → (SqL X.K H p ws ∨ SqT X.K H p ws) → strsOf ys = some ls → (ls.map List.length).sum + ls.length * z.cps.toList.length ≤ 1000000 → okK X.K (relD X.K) r H Q (.ok (.str (joinD z.cps.toList ls)) h) → xs = [.ref p] →
        wpAny (model X.prog X.w) X.A (call (.builtin "str.join") (v :: us)) (EP X pins σ Q) X.xe s := fun {ws ys zs p ls} k f e hz q ex => by
      obtain ⟨zs, rfl, e3, oks⟩ := strs_rep k e
      subst ex
      have e4 : (zs.map (·.length)).sum = (ls.map List.length).sum := by
        rw [← e3, List.map_map]
        exact congrArg List.sum (List.map_congr_left fun w _ => (Array.length_toList (xs := w.cps)).symm)
      have e5 : zs.length = ls.length := by rw [← e3, List.length_map]
      have e6 : z.length = z.cps.toList.length := by rw [Array.length_toList]; rfl
      refine mt_join pins s σ H _ _ v us Q I rx rv ⟨z, p, zs, rfl, rfl, f, by rw [e4, e5, e6]; omega, ?_⟩
      have e7 : Txt.join z zs = Str.join z zs := TL.join_eq z zs
      rw [e7]
      have e8 := joinD_eq z zs
      rw [e3] at e8
      have rp2 : Rep X.K H r (.str (Str.join z zs)) (.str (joinD z.cps.toList ls)) := by
        rw [← e8]
        refine .str _ ⟨join_ok oz.1 oks, ?_⟩
        rw [← Array.length_toList, e8]
        exact Nat.le_trans (joinD_len _ _) hz
      exact q.now Y rp2
    cases ra with
    | cons ry rn =>
      cases rn
      split at q
      · rename_i ys e
        obtain ⟨a, vs, rfl, h1, k⟩ := see_lst Y ry e
        split at q
        · rename_i ls e1
          obtain ⟨hz, q⟩ := ok_of q
          exact core (zs := []) k (.inl (.inl (.inl h1))) e1 hz q rfl
        · exact q.elim
      · rename_i ys e
        obtain ⟨a, vs, rfl, h1, k⟩ := see_tup ry e
        split at q
        · rename_i ls e1
          obtain ⟨hz, q⟩ := ok_of q
          exact core (zs := []) k (.inr h1.seq) e1 hz q rfl
        · exact q.elim
      · exact q.elim
  · exact q.elim
end
end Ev

/-! Ev10: built-in functions, o[i] = e, new dicts. -/
namespace Ev
open PySem L2

abbrev FB := List D → Hd → Res D
def gLen : FB := fun ds h => match ds with
  | [d] => match d.dict? h with
    | some es => .ok (.int (es.length : Nat)) h
    | none => match d.see h with
      | .lst xs => .ok (.int (xs.length : Nat)) h
      | .scr xs => .ok (.int (xs.length : Nat)) h
      | .tup xs => .ok (.int (xs.length : Nat)) h
      | .str s => .ok (.int (s.length : Nat)) h
      | _ => .stuck
  | _ => .stuck
def gInt : FB := fun ds h => match ds with
  | [.int i] => .ok (.int i) h
  | [.bl b] => .ok (.int (if b then 1 else 0)) h
  | _ => .stuck
def gAbs : FB := fun ds h => match ds with
  | [.int i] => .ok (.int (if i < 0 then -i else i)) h
  | _ => .stuck
def gMax : FB := fun ds h => match ds with
  | [.int i, .int j] => .ok (.int (if j > i then j else i)) h
  | _ => .stuck
def gMin : FB := fun ds h => match ds with
  | [.int i, .int j] => .ok (.int (if j < i then j else i)) h
  | _ => .stuck
def seqOf (h : Hd) (d : D) : Option (List D) :=
  match d.see h with
  | .lst xs => some xs
  | .scr xs => some xs
  | .tup xs => some xs
  | _ => none
def gTuple : FB := fun ds h => match ds with
  | [d] => match seqOf h d with
    | some xs => .ok (.tup xs) h
    | none => .stuck
  | _ => .stuck
def gList (m : Bool) : FB := fun ds h => match ds with
  | [d] => match seqOf h d with
    | some xs => fresh m xs h
    | none => .stuck
  | _ => .stuck
def blsOf : List D → Option (List Bool)
  | [] => some []
  | .bl b :: r => (blsOf r).map (b :: ·)
  | _ :: _ => none
def intsOf : List D → Option (List Int)
  | [] => some []
  | .int b :: r => (intsOf r).map (b :: ·)
  | _ :: _ => none
def listOf (h : Hd) (d : D) : Option (List D) :=
  match d.see h with
  | .lst xs => some xs
  | .scr xs => some xs
  | _ => none
def gEvery : FB := fun ds h => match ds with
  | [d] => match (listOf h d).bind blsOf with
    | some bs => .ok (.bl (bs.all id)) h
    | none => .stuck
  | _ => .stuck
def gSome : FB := fun ds h => match ds with
  | [d] => match (listOf h d).bind blsOf with
    | some bs => .ok (.bl (bs.any id)) h
    | none => .stuck
  | _ => .stuck
def gSum : FB := fun ds h => match ds with
  | [d] => match (listOf h d).bind intsOf with
    | some ns => .ok (.int ns.sum) h
    | none => .stuck
  | _ => .stuck
/-- the built-in type's name -/
def tyOf (d : D) (h : Hd) : Option String :=
  match d with
  | .non => some "NoneType"
  | .bl _ => some "bool"
  | .int _ => some "int"
  | .str _ => some "str"
  | .tup _ => some "tuple"
  | .lst _ => some "list"
  | .scr _ => some "list"
  | .ref i => match h[i]? with
    | some (.lst _) => some "list"
    | some (.dict _) => some "dict"
    | _ => none
  | .exc _ _ _ _ => none
inductive Ty where
  | int | bool | str | tuple | list
def Ty.n : Ty → String
  | .int => "int"
  | .bool => "bool"
  | .str => "str"
  | .tuple => "tuple"
  | .list => "list"
def isTy (n : Ty) (t : String) : Bool := t == n.n || (match n with
  | .int => t == "bool"
  | _ => false)
def dIs (n : Ty) (d : D) (h : Hd) : Res D := match tyOf d h with
  | some t => .ok (.bl (isTy n t)) h
  | none => .stuck

section
variable {X : Cx} {CL : List XC} {W : WX} {c : Calls}
def CaE (X : Cx) (v : Value) (f : FB) : Prop := CallR X v fun xs H Q => ∃ r h ds, R X.K r h H ∧ RepA X.K H r xs ds ∧ okK X.K (relD X.K) r H Q (f ds h)
abbrev CalmB (f : FB) : Prop := ∀ ds h c fs h', f ds h ≠ .exn c fs h'
theorem de_bif {x : Str} {id : String} {f : FB} {e : Expr} {es : List Expr} {l : ML} {p pos : Pos} (hf : CalmB f) (hc : CaE X (.builtin id) f) (hg : Gl X x) (hm : X.mg x = none) (hv : bootBuiltins x = some (.builtin id)) (ha : DA X CL W c (e :: es) l) (hn : x ≠ "__name__") (hdb : (x == ("__debug__" : Str)) = false)
    (he : starEach (e :: es) X.env = (false, eval e X.env) :: starEach es X.env) (hpl : (backTo pos (starEach es X.env)).any (·.1) = false) : DE X CL W c (.Call (.Name x p) (e :: es) [] pos) (mB f l) :=
  pimp (pe_callB hc hg hm hv ha hn hdb he hpl) fun σ H Q ⟨r, t, h, Y, S, q⟩ => (rd_bind Y S q).mono fun vs H1 ⟨r1, h1, ds, e1, Y1, S1, ra, q1⟩ => ⟨r1, h1, ds, Y1, ra, q1.okK (hf _ _)⟩
theorem de_bty {x : Str} {T : String} {f : FB} {e : Expr} {es : List Expr} {l : ML} {p pos : Pos} (hf : CalmB f) (hc : CaE X (.type T) f) (hg : Gl X x) (hm : X.mg x = none) (hv : bootBuiltins x = some (.type T)) (ha : DA X CL W c (e :: es) l) (hn : x ≠ "__name__") (hdb : (x == ("__debug__" : Str)) = false)
    (he : starEach (e :: es) X.env = (false, eval e X.env) :: starEach es X.env) (hpl : (backTo pos (starEach es X.env)).any (·.1) = false) : DE X CL W c (.Call (.Name x p) (e :: es) [] pos) (mB f l) :=
  pimp (pe_callTy hc hg hm hv ha hn hdb he hpl) fun σ H Q ⟨r, t, h, Y, S, q⟩ => (rd_bind Y S q).mono fun vs H1 ⟨r1, h1, ds, e1, Y1, S1, ra, q1⟩ => ⟨r1, h1, ds, Y1, ra, q1.okK (hf _ _)⟩
theorem one_of {K : PySem.W.Frag} {H : Hp} {r : Rho} {xs : List V} {d : D} (h : RepA K H r xs [d]) : ∃ v, xs = [v] ∧ Rep K H r v d := by
  cases h with | cons q k => cases k; exact ⟨_, rfl, q⟩
theorem seq_rep {K : PySem.W.Frag} {H : Hp} {r : Rho} {h : Hd} {v : V} {d : D} {xs : List D} (Y : R K r h H) (q : Rep K H r v d) (e : seqOf h d = some xs) : ∃ a vs, v = .ref a ∧ RepA K H r vs xs ∧ (SqL K H a vs ∨ (FzT K H r a vs)) := by
  unfold seqOf at e
  split at e
  · rename_i ys e1
    cases e
    obtain ⟨a, vs, rfl, h1, k⟩ := see_lst Y q e1
    exact ⟨a, vs, rfl, k, .inl (.inl (.inl h1))⟩
  · rename_i ys e1
    cases e
    obtain ⟨a, vs, rfl, h1, k⟩ := see_scr q e1
    exact ⟨a, vs, rfl, k, .inl h1⟩
  · rename_i ys e1
    cases e
    obtain ⟨a, vs, rfl, h1, k⟩ := see_tup q e1
    exact ⟨a, vs, rfl, k, .inr h1⟩
  · cases e
theorem list_rep {K : PySem.W.Frag} {H : Hp} {r : Rho} {h : Hd} {v : V} {d : D} {xs : List D} (Y : R K r h H) (q : Rep K H r v d) (e : listOf h d = some xs) : ∃ a vs, v = .ref a ∧ RepA K H r vs xs ∧ SqL K H a vs := by
  unfold listOf at e
  split at e
  · rename_i ys e1
    cases e
    obtain ⟨a, vs, rfl, h1, k⟩ := see_lst Y q e1
    exact ⟨a, vs, rfl, k, .inl (.inl h1)⟩
  · rename_i ys e1
    cases e
    obtain ⟨a, vs, rfl, h1, k⟩ := see_scr q e1
    exact ⟨a, vs, rfl, k, h1⟩
  · cases e
theorem bls_rep {K : PySem.W.Frag} {H : Hp} {r : Rho} : ∀ {xs : List D} {vs : List V} {bs : List Bool}, RepA K H r vs xs → blsOf xs = some bs → vs = bs.map V.bl
  | [], _, _, .nil, e => by cases e; rfl
  | d :: xs, _, ys, .cons q k, e => by
    cases d with
    | bl s =>
      have e : (blsOf xs).map (s :: ·) = some ys := e
      cases e1 : blsOf xs with
      | none => rw [e1] at e; cases e
      | some l => rw [e1] at e; cases e; cases q; rw [bls_rep k e1]; rfl
    | _ => cases e
theorem ints_rep {K : PySem.W.Frag} {H : Hp} {r : Rho} : ∀ {xs : List D} {vs : List V} {bs : List Int}, RepA K H r vs xs → intsOf xs = some bs → vs = bs.map V.int
  | [], _, _, .nil, e => by cases e; rfl
  | d :: xs, _, ys, .cons q k, e => by
    cases d with
    | int s =>
      have e : (intsOf xs).map (s :: ·) = some ys := e
      cases e1 : intsOf xs with
      | none => rw [e1] at e; cases e
      | some l => rw [e1] at e; cases e; cases q; rw [ints_rep k e1]; rfl
    | _ => cases e
theorem ca_len : CaE X (.builtin "len") gLen := by
  intro pins s σ H xs us Q I rv ⟨r, h, ds, Y, ra, q⟩
  unfold gLen at q
  split at q
  · rename_i d
    obtain ⟨v, rfl, rp⟩ := one_of ra
    split at q
    · rename_i es e
      obtain ⟨a, i, kvs, rfl, _, _, _, h1, l⟩ := dict_at Y rp e
      refine call_lenD pins s σ H _ us Q I rv ⟨a, kvs, rfl, h1, ?_⟩
      rw [repK_len l]
      exact q.now Y (.int _)
    · split at q
      · rename_i ys e
        obtain ⟨a, vs, rfl, h1, k⟩ := see_lst Y rp e
        refine call_len_seq pins s σ H _ us Q I rv ⟨a, vs, rfl, .inl (.inl (.inl h1)), ?_⟩
        rw [k.len]; exact q.now Y (.int _)
      · rename_i ys e
        obtain ⟨a, vs, rfl, h1, k⟩ := see_scr rp e
        refine call_len_seq pins s σ H _ us Q I rv ⟨a, vs, rfl, .inl h1, ?_⟩
        rw [k.len]; exact q.now Y (.int _)
      · rename_i ys e
        obtain ⟨a, vs, rfl, h1, k⟩ := see_tup rp e
        refine call_len_seq pins s σ H _ us Q I rv ⟨a, vs, rfl, .inr h1.seq, ?_⟩
        rw [k.len]; exact q.now Y (.int _)
      · rename_i ys e
        obtain ⟨x, rfl, rfl, ok⟩ := see_str rp e
        refine call_len_str pins s σ H _ us Q I rv ⟨x, rfl, ?_, ?_⟩
        · have := ok.2
          show x.cps.size ≤ _
          rw [sizeLine_eq]; omega
        · have e2 : x.length = x.cps.toList.length := by rw [Array.length_toList]; rfl
          rw [e2]; exact q.now Y (.int _)
      · exact q.elim
  · exact q.elim
theorem ca_int : CaE X (.type "int") gInt := by
  intro pins s σ H xs us Q I rv ⟨r, h, ds, Y, ra, q⟩
  unfold gInt at q
  split at q
  · obtain ⟨v, rfl, rp⟩ := one_of ra
    cases rp
    exact call_int1 pins s σ H _ us Q I rv (.inl ⟨_, rfl, q.now Y (.int _)⟩)
  · obtain ⟨v, rfl, rp⟩ := one_of ra
    cases rp
    exact call_int1 pins s σ H _ us Q I rv (.inr ⟨_, rfl, q.now Y (.int _)⟩)
  · exact q.elim
theorem ca_abs : CaE X (.builtin "abs") gAbs := by
  intro pins s σ H xs us Q I rv ⟨r, h, ds, Y, ra, q⟩
  unfold gAbs at q
  split at q
  · obtain ⟨v, rfl, rp⟩ := one_of ra
    cases rp
    exact call_abs pins s σ H _ us Q I rv ⟨_, rfl, q.now Y (.int _)⟩
  · exact q.elim
theorem two_of {K : PySem.W.Frag} {H : Hp} {r : Rho} {xs : List V} {d e : D} (h : RepA K H r xs [d, e]) : ∃ v w, xs = [v, w] ∧ Rep K H r v d ∧ Rep K H r w e := by
  cases h with | cons q k => cases k with | cons q2 k => cases k; exact ⟨_, _, rfl, q, q2⟩
theorem ca_max (hc : X.calm = true) : CaE X (.builtin "max") gMax := by
  intro pins s σ H xs us Q I rv ⟨r, h, ds, Y, ra, q⟩
  unfold gMax at q
  split at q
  · obtain ⟨v, w, rfl, rp, rq⟩ := two_of ra
    cases rp; cases rq
    exact call_max2 hc pins s σ H _ us Q I rv ⟨_, _, rfl, q.now Y (.int _)⟩
  · exact q.elim
theorem ca_min (hc : X.calm = true) : CaE X (.builtin "min") gMin := by
  intro pins s σ H xs us Q I rv ⟨r, h, ds, Y, ra, q⟩
  unfold gMin at q
  split at q
  · obtain ⟨v, w, rfl, rp, rq⟩ := two_of ra
    cases rp; cases rq
    exact call_min2 hc pins s σ H _ us Q I rv ⟨_, _, rfl, q.now Y (.int _)⟩
  · exact q.elim
theorem ca_list {m : Bool} : CaE X (.type "list") (gList m) := by
  intro pins s σ H xs us Q I rv ⟨r, h, ds, Y, ra, q⟩
  unfold gList at q
  split at q
  · obtain ⟨v, rfl, rp⟩ := one_of ra
    split at q
    · rename_i ys e
      obtain ⟨a, vs, rfl, k, f⟩ := seq_rep Y rp e
      exact call_list_of pins s σ H _ us Q I rv ⟨a, vs, rfl, f.imp id (fun f => f.seq), fun p n => new_shut Y k q n⟩
    · exact q.elim
  · exact q.elim
theorem ca_tuple : CaE X (.type "tuple") gTuple := by
  intro pins s σ H xs us Q I rv ⟨r, h, ds, Y, ra, q⟩
  unfold gTuple at q
  split at q
  · obtain ⟨v, rfl, rp⟩ := one_of ra
    split at q
    · rename_i ys e
      obtain ⟨a, vs, rfl, k, f⟩ := seq_rep Y rp e
      rcases f with f | f
      · obtain ⟨u, rfl, ru⟩ := vals1 rv
        cases ru
        obtain ⟨its, r', pl, hz⟩ := I.list f
        have hlen := r'.length
        have hq : okK X.K (relD X.K) r H Q (freshT ys h) := by
          unfold freshT
          rw [if_pos (by rw [← k.len]; exact hz)]
          exact q
        refine call_tuple_list pl.isList (fun h' kp => ?_) (by simp only [List.size_toArray] <;> omega)
        have I1 : Inv X pins σ H { s with heap := h' } := I.kept (t' := s.toks) kp
        exact ⟨.ref _, _, tup_laid (t' := s.toks) I1 r' hz, rfl, new_tup Y k hq (I1.hok.fresh (Nat.le_refl _)) ⟨_, _, rfl⟩⟩
      · exact call_tupleT pins s σ H _ us Q I rv ⟨a, vs, rfl, f.seq, q.now Y (.tup f k)⟩
    · exact q.elim
  · exact q.elim
theorem ca_all (hc : X.calm = true) : CaE X (.builtin "all") gEvery := by
  intro pins s σ H xs us Q I rv ⟨r, h, ds, Y, ra, q⟩
  unfold gEvery at q
  split at q
  · obtain ⟨v, rfl, rp⟩ := one_of ra
    split at q
    · rename_i bs e
      obtain ⟨ys, e1, e2⟩ := Option.bind_eq_some_iff.mp e
      obtain ⟨a, vs, rfl, k, f⟩ := list_rep Y rp e1
      have := bls_rep k e2
      subst this
      exact cr_all hc pins s σ H _ us Q I rv ⟨a, bs, rfl, f, q.now Y (.bl _)⟩
    · exact q.elim
  · exact q.elim
theorem ca_any (hc : X.calm = true) : CaE X (.builtin "any") gSome := by
  intro pins s σ H xs us Q I rv ⟨r, h, ds, Y, ra, q⟩
  unfold gSome at q
  split at q
  · obtain ⟨v, rfl, rp⟩ := one_of ra
    split at q
    · rename_i bs e
      obtain ⟨ys, e1, e2⟩ := Option.bind_eq_some_iff.mp e
      obtain ⟨a, vs, rfl, k, f⟩ := list_rep Y rp e1
      have := bls_rep k e2
      subst this
      exact cr_any hc pins s σ H _ us Q I rv ⟨a, bs, rfl, f, q.now Y (.bl _)⟩
    · exact q.elim
  · exact q.elim
theorem ca_sum (hc : X.calm = true) : CaE X (.builtin "sum") gSum := by
  intro pins s σ H xs us Q I rv ⟨r, h, ds, Y, ra, q⟩
  unfold gSum at q
  split at q
  · obtain ⟨v, rfl, rp⟩ := one_of ra
    split at q
    · rename_i bs e
      obtain ⟨ys, e1, e2⟩ := Option.bind_eq_some_iff.mp e
      obtain ⟨a, vs, rfl, k, f⟩ := list_rep Y rp e1
      have := ints_rep k e2
      subst this
      exact cr_sum hc pins s σ H _ us Q I rv ⟨a, bs, rfl, f, q.now Y (.int _)⟩
    · exact q.elim
  · exact q.elim

/-! ### isinstance of a built-in type -/
theorem ty_rep {H : Hp} {r : Rho} {h : Hd} {v : V} {d : D} {t : String} (Y : R X.K r h H) (q : Rep X.K H r v d) (e : tyOf d h = some t) : TyX X.K H v (.type t) := by
  cases d with
  | non => cases e; cases q; exact .base .non
  | bl b => cases e; cases q; exact .base (.bl b)
  | int i => cases e; cases q; exact .base (.int i)
  | str s => cases e; obtain ⟨x, rfl, _, _⟩ := rep_str q; exact .base (.str x)
  | tup xs =>
    cases e
    cases q with
    | tup f _ =>
      rcases f with ⟨o, f, _⟩ | ⟨_, o, lk, its, n, eo⟩
      · exact .fTuple f
      · exact .kTuple lk (by rw [eo])
  | lst xs => cases e; cases q with | lst f _ => exact .base (.lst f.1)
  | scr xs =>
    cases e
    cases q with
    | scr f _ =>
      rcases f with ⟨f, _⟩ | f
      · rcases f with f | ⟨o, f⟩
        · exact .base (.lst f)
        · exact .base (.frz f)
      · rcases f with f | ⟨o, its, n, lk, hc, _⟩
        · exact (no_rd f).elim
        · exact .kList lk hc
  | ref i =>
    have e : (match h[i]? with | some (.lst _) => some "list" | some (.dict _) => some "dict" | _ => none) = some t := e
    split at e
    · rename_i xs e1
      cases e
      obtain ⟨a, vs, rfl, h1, _⟩ := items_at Y q (xs := xs) (by unfold D.items?; simp only [e1])
      exact .base (.lst h1)
    · rename_i es e1
      cases e
      obtain ⟨a, j, kvs, rfl, _, _, _, h1, _⟩ := dict_at Y q (es := es) (by unfold D.dict?; simp only [e1])
      exact .base (.dK h1)
    · cases e
  | exc _ _ _ _ => cases e
theorem kit_ok (K : PySem.W.Frag) {t : String} (n : Ty) (h : t = "NoneType" ∨ t = "bool" ∨ t = "int" ∨ t = "str" ∨ t = "tuple" ∨ t = "list" ∨ t = "dict") : PySem.W.kitOne K (.type t) (.type n.n) = some (isTy n t) := by
  rcases h with rfl | rfl | rfl | rfl | rfl | rfl | rfl <;> cases n <;> (first | rfl | kernel_rfl)
theorem ty_names {d : D} {h : Hd} {t : String} (e : tyOf d h = some t) : t = "NoneType" ∨ t = "bool" ∨ t = "int" ∨ t = "str" ∨ t = "tuple" ∨ t = "list" ∨ t = "dict" := by
  cases d with
  | ref i =>
    have e : (match h[i]? with | some (.lst _) => some "list" | some (.dict _) => some "dict" | _ => none) = some t := e
    split at e
    · cases e; simp
    · cases e; simp
    · cases e
  | exc _ _ _ _ => cases e
  | _ => cases e; simp
theorem de_isi {x y : Str} {n : Ty} {e : Expr} {m : M} {p p2 pos : Pos} (hg : Gl X x) (hm : X.mg x = none) (hv : bootBuiltins x = some (.builtin "isinstance")) (hg2 : Gl X y) (hm2 : X.mg y = none) (hv2 : bootBuiltins y = some (.type n.n)) (he : DE X CL W c e m) (hn : x ≠ "__name__") (hdb : (x == ("__debug__" : Str)) = false) (hn2 : y ≠ "__name__") (hdb2 : (y == ("__debug__" : Str)) = false)
    (hs : starEach [e, .Name y p2] X.env = (false, eval e X.env) :: starEach [.Name y p2] X.env) : DE X CL W c (.Call (.Name x p) [e, .Name y p2] [] pos) (mUn (dIs n) m) :=
  pimp (pe_callB (id := "isinstance") call_isi hg hm hv (pa_cons he (pa_cons (pe_bltn hg2 hm2 hv2 (v := .ty n.n) rfl hn2 hdb2) pa_nil rfl) hs) hn hdb hs rfl) fun σ H Q ⟨r, t, h, Y, S, q⟩ => (rd_bind Y S q).mono fun v H1 ⟨r1, h1, d, e1, Y1, S1, rv, q1⟩ => by
    unfold dIs at q1
    split at q1
    · rename_i t et
      exact ⟨v, .ty n.n, .type t, .type n.n, _, rfl, .ty _, ty_rep Y1 rv et, kit_ok X.K n (ty_names et), q1.now Y1 (.bl _)⟩
    · exact q1.elim
end
end Ev

/-! Ev11: making an error of an own class: super().__init__(text), then its fields. -/
namespace Ev
open PySem PySem.Spec PyProof.Rows L2 PySem.Calls
open PySem.W (Frag)

/-- self.f = f, for each field -/
inductive Puts : List Stmt → List Str → Prop
  | nil : Puts [] []
  | cons {f : Str} {p1 p2 p3 p4 : Pos} {r : List Stmt} {fs : List Str} : Puts r fs → Puts (.Assign [.Attribute (.Name "self" p1) f p2] (.Name f p3) p4 :: r) (f :: fs)
def putAll : List (Str × Value) → (Str → Option Value) → Str → Option Value
  | [], m => m
  | (f, v) :: r, m => putAll r fun y => if y = f then some v else m y
/-- what the written part says of an own error class at C: its __init__ at fI, the cell of its name at cc, the code object at cda -/
structure XTxt (K : Frag) (prog : Program) (C : Addr) (fs : List Str) (fI cda cc : Addr) : Prop where
  oex : OexC K C
  noN : ∀ f ∈ fs, PySem.W.findIn K (.ref C) f = some none
  iC : PySem.W.findIn K (.ref C) "__init__" = some (some (.ref fI))
  tI : PySem.W.typeIn K (.ref fI) = some (.type "function")
  fn : ∃ (q : Str) (params : Arguments) (sc : Scope) (doc pm ct oc : Value) (an od : Option Addr) (osl : Array (Option Value)) (p0 p1 p2 p3 p4 p5 : Pos) (m : Str) (j : Nat) (puts : List Stmt),
    K.lookup fI = some ⟨oc, od, .func (PySem.W.ksFn "__init__" q params (.Expr (.Call (.Attribute (.Call (.Name "super" p0) [] [] p1) "__init__" p2) [.Constant (.str m) j p3] [] p4) p5 :: puts) sc .none .none doc pm an (.ref cda) ct cc), osl⟩ ∧
      PySem.W.codeIn K (.ref cda) q = true ∧ Puts puts fs ∧ sc.names.lookup ("super" : Str) = some .globalImplicit ∧ sc.names.lookup ("__class__" : Str) = some .free ∧ sc.names.lookup ("self" : Str) = some .local ∧ (∀ f ∈ fs, sc.names.lookup f = some .local) ∧
      (∀ x ∈ sc.names, x.2 ≠ .cell) ∧ sc.isCoroutine = false ∧ sc.isGenerator = false ∧ sc.kind = .function ∧ (∃ ar, (params.posonlyargs ++ params.args).head? = some ar ∧ ar.arg = "self") ∧
      (∀ env : Env, ∃ pl : Sem Bool, eval (.Call (.Attribute (.Call (.Name "super" p0) [] [] p1) "__init__" p2) [.Constant (.str m) j p3] [] p4) env = (do
        let ov ← attributeBase (.Call (.Name "super" p0) [] [] p1) "__init__" env (eval (.Call (.Name "super" p0) [] [] p1) env)
        standAt p2.atName
        let (f, first) ← holding [ov] (getMethod ov "__init__" pl)
        callWith p4 f first (backTo p4 (starEach [.Constant (.str m) j p3] env)) [])) ∧
      (∀ us : List Value, us.length = fs.length → ∀ x, bindArgs (PySem.W.ksFn "__init__" q params (.Expr (.Call (.Attribute (.Call (.Name "super" p0) [] [] p1) "__init__" p2) [.Constant (.str m) j p3] [] p4) p5 :: puts) sc .none .none doc pm an (.ref cda) ct cc) ⟨x :: us, []⟩ = pure ((("self" : Str), x) :: fs.zip us))
  nd : fs.Nodup
  ns : ("self" : Str) ∉ fs
  nc : ∀ f ∈ fs, (f == ("__debug__" : Str)) = false
  code : ∃ (ccl : Value) (cdd : Option Addr) (ccs : Array (Option Value)) (vs : Array Value) (file : Str) (tf : Tok), K.lookup cda = some ⟨ccl, cdd, .fields vs, ccs⟩ ∧ vs[2]? = some (.str file tf) ∧ ((prog.main.file : Str) == file) = true
  cell : ∃ (cl : Value) (cld : Option Addr) (csl : Array (Option Value)), K.lookup cc = some ⟨cl, cld, .cell (some (.ref C)), csl⟩
  sup : PySem.W.ks_superIn K C C "__init__" = some (some (.builtin "ValueError.__init__"))
  isV : PySem.W.subIn K (.ref C) (.type "ValueError") = some true
  opq : PySem.W.nsIn K cStatics "thirdparty.any" = some none
  sub : PySem.W.mroIn K C (.ref C) = some true
  top : (prog.main.scope.names.lookup ("super" : Str)).isSome = false

theorem lookup_mem {β : Type} : ∀ {l : List (Str × β)} {k : Str} {v : β}, l.lookup k = some v → (k, v) ∈ l
  | [], _, _, h => by cases h
  | (a, b) :: l, k, v, h => by
    rw [List.lookup_cons] at h
    split at h
    · rename_i e
      cases h
      rw [beq_iff_eq] at e
      subst e
      exact List.mem_cons_self
    · exact List.mem_cons_of_mem _ (lookup_mem h)
theorem mem_lookup {β : Type} : ∀ {l : List (Str × β)} {k : Str} {v : β}, (l.map (·.1)).Nodup → (k, v) ∈ l → l.lookup k = some v
  | [], _, _, _, h => by cases h
  | (a, b) :: l, k, v, nd, h => by
    rw [List.map_cons, List.nodup_cons] at nd
    rcases List.mem_cons.mp h with e | h
    · cases e
      rw [List.lookup_cons, beq_self_eq_true]
    · have ne : k ≠ a := fun e => nd.1 (List.mem_map.mpr ⟨(k, v), h, e⟩)
      rw [List.lookup_cons, beq_eq_false_iff_ne.mpr ne]
      exact mem_lookup nd.2 h
theorem List.nodup_reverse_iff_aux {α : Type} {l : List α} (h : l.Nodup) : l.reverse.Nodup := by
  rw [List.Nodup, List.pairwise_reverse]
  exact h.imp fun h => Ne.symm h
theorem lookup_rev {β : Type} {l : List (Str × β)} (nd : (l.map (·.1)).Nodup) (k : Str) : l.reverse.lookup k = l.lookup k := by
  have nr : (l.reverse.map (·.1)).Nodup := by
    rw [List.map_reverse]
    exact (List.nodup_reverse_iff_aux nd)
  cases e : l.lookup k with
  | some v => exact mem_lookup nr (List.mem_reverse.mpr (lookup_mem e))
  | none =>
    cases e2 : l.reverse.lookup k with
    | none => rfl
    | some v =>
      have := mem_lookup nd (List.mem_reverse.mp (lookup_mem e2))
      rw [e] at this; cases this
theorem zip_keys {β : Type} : ∀ (fs : List Str) (us : List β), us.length = fs.length → (fs.zip us).map (·.1) = fs
  | [], [], _ => rfl
  | f :: fs, u :: us, h => by
    rw [List.zip_cons_cons, List.map_cons, zip_keys fs us (by simpa using h)]
  | [], _ :: _, h => by simp at h
  | _ :: _, [], h => by simp at h
theorem relO_putAll : ∀ {l : List (Str × V)} {lu : List (Str × Value)} {b : List (Str × V)} {m : Str → Option Value}, Paired (fun (p : Str × V) (q : Str × Value) => p.1 = q.1 ∧ RelV p.2 q.2) l lu → (∀ g, RelO (b.lookup g) (m g)) →
    ∀ g, RelO ((l.reverse ++ b).lookup g) (putAll lu m g)
  | _, _, b, m, .nil, h, g => h g
  | _, _, b, m, .cons (a := (f, v)) (b := (f', u)) r t, h, g => by
    obtain ⟨rfl, rv⟩ : f = f' ∧ RelV v u := r
    rw [List.reverse_cons, List.append_assoc]
    exact relO_putAll (b := (f, v) :: b) t (fun g => relO_put rv h g) g
theorem kept_but' {K : Frag} {h h' : Heap} {x : Addr} (X : K.In h) (hx : K.lookup x = none) (k : ∀ b o, b ≠ x → h.get? b = some o → h'.get? b = some o) : K.In h' := fun a o e =>
  k a o (fun z => by rw [z, hx] at e; cases e) (X a o e)
section
variable {prog : Program} {w : World} {A : Around} {E : Value → Shared → Prop} {K : Frag} {C fI cda cc x dx L : Addr} {q : Str} {sc : Scope} {g : Array GenState} {d : Drawn} {os : OsState} {fv : Array Value}
theorem ldE {M : Model} {s : Shared} {m : Str → Option Value} {y : Str} {pos : Pos} {v : Value} {Q : Value → Shared → Prop} {cd : Value} (hn : s.heap.Ns L m) (hv : m y = some v) (hk : sc.kind = .function) (hl : sc.names.lookup y = some .local) (hd : (y == ("__debug__" : Str)) = false) (h : Q v s) :
    wpAny M A (eval (.Name y pos) (PySem.W.ksEnv q sc L fI cd cc)) Q E s := wpAny_Name (wpAny_loadName_local (env := PySem.W.ksEnv q sc L fI cd cc) hk hl hn hv h) hd
theorem puts_old (T : OexC K C) (hk : sc.kind = .function) (hself : sc.names.lookup ("self" : Str) = some .local) : ∀ {puts : List Stmt} {fs : List Str} {us : List Value} {hp : Heap} {tk : Nat} {m0 mL : Str → Option Value} {nl : List Str} {Q : Flow → Shared → Prop}, Puts puts fs → us.length = fs.length →
    (∀ f ∈ fs, PySem.W.findIn K (.ref C) f = some none) → (∀ f ∈ fs, sc.names.lookup f = some .local) → (∀ f ∈ fs, (f == ("__debug__" : Str)) = false) → K.In hp → K.lookup dx = none → hp.get? x = some { cls := .ref C, dict := some dx, data := .fields fv } → dx ≠ x → hp.Ns1 dx m0 → Within m0 nl → nl.length + fs.length ≤ 1000 →
    hp.Ns L mL → L ≠ dx → mL "self" = some (.ref x) → (∀ p ∈ fs.zip us, mL p.1 = some p.2) →
    (∀ h' tk', (∀ b o, b ≠ dx → hp.get? b = some o → h'.get? b = some o) → h'.Ns1 dx (putAll (fs.zip us) m0) → Q .next ⟨h', g, d, tk', os⟩) →
    wpAny (model prog w) A (execs puts (PySem.W.ksEnv q sc L fI (.ref cda) cc)) Q E ⟨hp, g, d, tk, os⟩
  | _, _, [], hp, tk, m0, mL, nl, Q, .nil, _, _, _, _, X, hK, hx, ne, hns, hw, hl, hL, hLd, hS, hF, hq => by
    exact wpAny_execs_nil (hq hp tk (fun _ _ _ e => e) hns)
  | _, _, [], hp, tk, m0, mL, nl, Q, .cons _, h, _, _, _, X, hK, hx, ne, hns, hw, hl, hL, hLd, hS, hF, hq => by simp at h
  | _, _, _ :: _, hp, tk, m0, mL, nl, Q, .nil, h, _, _, _, X, hK, hx, ne, hns, hw, hl, hL, hLd, hS, hF, hq => by simp at h
  | _, _, u :: us, hp, tk, m0, mL, nl, Q, .cons (f := f) (fs := fs) P, h, hno, hlo, hdb, X, hK, hx, ne, hns, hw, hl, hL, hLd, hS, hF, hq => by
    obtain ⟨nm, q, N, bs, bm, sn, sub, ab, col, dd, k0, k1, k2, k3, k5, hC, hbm⟩ := T.cls
    have hcl : PySem.W.clsIn K C = some { name := nm, bases := bs, mro := .ref C :: bm, ns := N, qualname := q, hasDict := true, slotNames := sn, subclasses := sub, abstract := ab, collection := col, hasDel := false } := by unfold PySem.W.clsIn; rw [hC] <;> rfl
    obtain ⟨oD, _, _, hoD, _, _⟩ := hns.count hw
    refine wpAny_execs_cons (plainObj_wpAny_Assign_Attribute ?_)
    refine ldE hL (hF (f, u) (by simp)) hk (hlo _ (by simp)) (hdb _ (by simp)) (ldE hL hS hk hself (by decide) ?_)
    refine PySem.W.set_plain X (ox := { cls := .ref C, dict := some dx, data := .fields fv }) (od := some oD) ⟨hx, rfl, rfl, hoD⟩ T.sa ?_
    refine PySem.OEX.osa_old X hx hns hw (by simp at hl; omega) hcl (show PySem.HandSPX.refsVE (.ref C :: bm) = true from hbm) rfl (hno _ (by simp)) (fun h' tk' k hn => ?_)
    have hL' : h'.Ns L mL := hL.at fun o e => k L o hLd e
    refine puts_old T hk hself (m0 := fun y => if y = f then some u else m0 y) (nl := f :: nl) P (by simpa using h) (fun g m => hno g (by simp [m])) (fun g m => hlo g (by simp [m])) (fun g m => hdb g (by simp [m])) (kept_but' X hK k) hK (k _ _ (Ne.symm ne) hx) ne hn (Within.cons f u hw) (by simp at hl ⊢; omega)
      hL' hLd hS (fun p m => hF p (by simp [m])) (fun h2 tk2 k2 hn2 => hq h2 tk2 (fun b o hb e => k2 b o hb (k b o hb e)) hn2)
end
end Ev

/-! Ev12: the walk through an own error's __init__. -/
namespace Ev
open PySem PySem.Spec PyProof.Rows L2 PySem.Calls
open PySem.W (Frag)
section
variable {prog : Program} {w : World} {A : Around} {E : Value → Shared → Prop} {K : Frag} {C fI cda cc x dx L : Addr} {q : Str} {sc : Scope} {g : Array GenState} {d : Drawn} {os : OsState}
structure XEnd (h h' : Heap) (x C dx t1 : Addr) (m : Str → Option Value) : Prop where
  keep : ∀ b o, b ≠ x → h.get? b = some o → h'.get? b = some o
  obj : h'.get? x = some { cls := .ref C, dict := some dx, data := .fields #[.ref t1, .none, .none, .none, .bool false, .none] }
  dbig : h.objs.size ≤ dx
  dne : dx ≠ x
  ns : h'.Ns1 dx m
theorem no_key {h : Heap} {a : Addr} (X : K.In h) (ha : h.objs.size ≤ a) : K.lookup a = none := by
  cases e : K.lookup a with
  | none => rfl
  | some o =>
    have z := X _ _ e
    exact absurd (Nat.lt_of_lt_of_le (Heap.lt_size z) ha) (Nat.lt_irrefl _)
theorem puts_new (T : OexC K C) (hk : sc.kind = .function) (hself : sc.names.lookup ("self" : Str) = some .local) {puts : List Stmt} {f : Str} {fs : List Str} {u : Value} {us : List Value} {hp : Heap} {tk : Nat} {t1 : Addr} {mL : Str → Option Value} {Q : Flow → Shared → Prop} (P : Puts puts (f :: fs)) (h : us.length = fs.length)
    (hno : ∀ g ∈ f :: fs, PySem.W.findIn K (.ref C) g = some none) (hlo : ∀ g ∈ f :: fs, sc.names.lookup g = some .local) (hdb : ∀ g ∈ f :: fs, (g == ("__debug__" : Str)) = false) (X : K.In hp) (hK : K.lookup x = none) (hx : hp.get? x = some (PySem.HandSPX.excO C t1)) (hz : fs.length ≤ 900)
    (hL : hp.Ns L mL) (hLx : L ≠ x) (hS : mL "self" = some (.ref x)) (hF : ∀ p ∈ (f :: fs).zip (u :: us), mL p.1 = some p.2)
    (hq : ∀ h' tk' dx, XEnd hp h' x C dx t1 (putAll ((f :: fs).zip (u :: us)) fun _ => none) → Q .next ⟨h', g, d, tk', os⟩) :
    wpAny (model prog w) A (execs puts (PySem.W.ksEnv q sc L fI (.ref cda) cc)) Q E ⟨hp, g, d, tk, os⟩ := by
  cases P with
  | cons P =>
    obtain ⟨nm, q, N, bs, bm, sn, sub, ab, col, dd, k0, k1, k2, k3, k5, hC, hbm⟩ := T.cls
    have hcl : PySem.W.clsIn K C = some { name := nm, bases := bs, mro := .ref C :: bm, ns := N, qualname := q, hasDict := true, slotNames := sn, subclasses := sub, abstract := ab, collection := col, hasDel := false } := by unfold PySem.W.clsIn; rw [hC] <;> rfl
    refine wpAny_execs_cons (plainObj_wpAny_Assign_Attribute ?_)
    refine ldE hL (hF (f, u) (by simp)) hk (hlo _ (by simp)) (hdb _ (by simp)) (ldE hL hS hk hself (by decide) ?_)
    refine PySem.W.set_plain X (ox := PySem.HandSPX.excO C t1) (od := none) ⟨hx, rfl, rfl, trivial⟩ T.sa ?_
    refine PySem.HandSPX.exc_osa X hx hcl (show PySem.HandSPX.refsVE (.ref C :: bm) = true from hbm) rfl (hno _ (by simp)) (fun h3 tk3 dx k3 dn dne hx3 hn3 => ?_)
    have hL3 : h3.Ns L mL := hL.at fun o e => k3 L o hLx e
    have hLd : L ≠ dx := fun z => by
      obtain ⟨oL, _, _, e, _⟩ := hL
      rw [z] at e
      exact absurd (Nat.lt_of_lt_of_le (Heap.lt_size e) dn) (Nat.lt_irrefl _)
    refine puts_old T hk hself (m0 := fun y => if y = f then some u else none) (nl := [f]) P h (fun g m => hno g (by simp [m])) (fun g m => hlo g (by simp [m])) (fun g m => hdb g (by simp [m])) (kept_but' X hK k3) (no_key X dn) hx3 dne hn3 (Within.cons f u fun y h => (h rfl).elim) (by simp; omega)
      hL3 hLd hS (fun p m => hF p (by simp [m])) (fun h2 tk2 k2 hn2 => hq h2 tk2 dx ⟨fun b o hb e => k2 b o (fun z => ?_) (k3 b o hb e), k2 _ _ (Ne.symm dne) hx3, dn, dne, hn2⟩)
    rw [z] at e
    exact absurd (Nat.lt_of_lt_of_le (Heap.lt_size e) dn) (Nat.lt_irrefl _)
/-- the bound ValueError.__init__ -/
theorem mw_call (T : OexC K C) {hp : Heap} {tk : Nat} {u t1 : Addr} {rest : List Value} {Q : Value → Shared → Prop} (X : K.In hp) (hx : hp.get? x = some (PySem.HandSPX.excO C t1)) (hu : hp.get? u = some (PySem.W.kxs_mw "ValueError.__init__" x)) (hz : rest.length ≤ sizeLine)
    (hq : ∀ h' t2, (∀ b o, b ≠ x → hp.get? b = some o → h'.get? b = some o) → h'.get? x = some (PySem.HandSPX.excO C t2) → Q .none ⟨h', g, d, tk, os⟩) :
    wpAny (model prog w) A (call (.ref u) rest) Q E ⟨hp, g, d, tk, os⟩ := by
  obtain ⟨nm, q, N, bs, bm, sn, sub, ab, col, dd, k0, k1, k2, k3, k5, hC, hbm⟩ := T.cls
  refine wpAny_call (codeAny_of_tree ?_)
  show wpAny _ A.in1 (callAny (.ref u) ⟨rest, []⟩) _ _ _
  simp only [callAny]
  refine wpAny_bind (wpAny_load hu ?_)
  simp only [PySem.W.kxs_mw, show (Value.type "method-wrapper" == Value.type "method" || Value.type "method-wrapper" == Value.type "builtin_function_or_method" || Value.type "method-wrapper" == Value.type "method-wrapper") = true by decide, if_true]
  refine PySem.W.KFB.if_so (by decide) ?_
  refine wpAny_bind (PySem.W.check_bound_init F.excBase_ValueError.toExcCallFacts (X _ _ hC) hx rfl ?_)
  refine wpAny_bind (wpAny_pure (wpAny_pure ?_))
  refine ⟨plainId_quiet F.excBase_ValueError.init.plain _, codeAny_builtin F.excBase_ValueError.initEntry ?_⟩
  exact PySem.W.exc_init_tree (cls := .ref C) (t0 := t1) (dv := none) (c2 := .none) (c3 := .none) (b4 := .bool false) hx hz fun h' k e _ => hq h' _ k e
theorem xi_init {fs : List Str} {us : List Value} {R : Result → Shared → Prop} {s : Shared} {t0 : Addr} {mg mb : Str → Option Value} (T : XTxt K prog C fs fI cda cc) (X : K.In s.heap) (hlim : s.heap.NoLimit) (G : s.heap.Ns mainGlobals mg) (hmg : mg "super" = none) (B : s.heap.Ns builtinsNs mb) (hmb : mb "super" = some (.type "super"))
    (hx : s.heap.get? x = some (PySem.HandSPX.excO C t0)) (hnx : K.lookup x = none) (hroom : A.depth < recursionLimit) (hl : us.length = fs.length) (hfs : fs ≠ []) (hz : fs.length ≤ 900)
    (hq : ∀ h' tk dx t1, XEnd s.heap h' x C dx t1 (putAll (fs.zip us) fun _ => none) → R (.ok (.ret .none)) { s with heap := h', toks := tk }) :
    codeAny (model prog w) A (.call (.ref fI) ⟨.ref x :: us, []⟩) R s := by
  obtain ⟨q, params, sc, doc, pm, ct, oc, an, od, osl, p0, p1, p2, p3, p4, p5, m, j, puts, lk, hcd, P, s1, s2, s3, s4, s5, s6, s7, s8, ⟨ar, a1, a2⟩, hev, hb⟩ := T.fn
  obtain ⟨skind, snames, sgen, sco, smore⟩ := sc
  dsimp only at s1 s2 s3 s4 s5 s6 s7 s8
  subst s6 s7 s8
  obtain ⟨ccl, cdd, ccs, vs, file, tf, lc, hvs, hfile⟩ := T.code
  obtain ⟨cl, cld, csl, lcell⟩ := T.cell
  obtain ⟨nm, qn, N, bs, bm, sn, sub, ab, col, dd, k0, k1, k2, k3, k5, hC, hbm⟩ := T.oex.cls
  have hcl : PySem.W.clsIn K C = some { name := nm, bases := bs, mro := .ref C :: bm, ns := N, qualname := qn, hasDict := true, slotNames := sn, subclasses := sub, abstract := ab, collection := col, hasDel := false } := by unfold PySem.W.clsIn; rw [hC] <;> rfl
  refine PySem.ks_codeAny_call_defAt (fd := PySem.W.ksFn "__init__" q params (.Expr (.Call (.Attribute (.Call (.Name "super" p0) [] [] p1) "__init__" p2) [.Constant (.str m) j p3] [] p4) p5 :: puts) ⟨.function, snames, false, false, smore⟩ .none .none doc pm an (.ref cda) ct cc)
    (binds := (("self" : Str), .ref x) :: fs.zip us) hroom (X _ _ lk) rfl hlim (PySem.W.codeRec_of X hcd) rfl (BindsTo.of_eq (hb us hl (.ref x))) s5 (fun y hy => ?_) (fun h₀ hns hk₀ => ?_) rfl rfl rfl
  · rcases List.mem_cons.mp hy with rfl | hy
    · exact s3
    · exact s4 y.1 (List.of_mem_zip hy).1
  · have X0 : K.In h₀ := X.keeps hk₀
    have hx0 := hk₀ _ _ hx
    have G0 : h₀.Ns mainGlobals mg := G.keeps hk₀
    have B0 : h₀.Ns builtinsNs mb := B.keeps hk₀
    have hself : (((("self" : Str), Value.ref x) :: fs.zip us).reverse).lookup ("self" : Str) = some (.ref x) := by
      rw [lookup_rev (by rw [List.map_cons, zip_keys _ _ hl]; exact List.nodup_cons.mpr ⟨T.ns, T.nd⟩), List.lookup_cons, beq_self_eq_true]
    have hfld : ∀ p ∈ fs.zip us, (((("self" : Str), Value.ref x) :: fs.zip us).reverse).lookup p.1 = some p.2 := fun p hp => by
      rw [lookup_rev (by rw [List.map_cons, zip_keys _ _ hl]; exact List.nodup_cons.mpr ⟨T.ns, T.nd⟩)]
      exact mem_lookup (by rw [List.map_cons, zip_keys _ _ hl]; exact List.nodup_cons.mpr ⟨T.ns, T.nd⟩) (List.mem_cons_of_mem _ hp)
    have hLx : s.heap.objs.size ≠ x := Nat.ne_of_gt (Heap.lt_size hx)
    obtain ⟨pl, he⟩ := hev (PySem.W.ksEnv q ⟨.function, snames, false, false, smore⟩ s.heap.objs.size fI (.ref cda) cc)
    refine PySem.ks_wpAt_execs_cons (PySem.ks_wpAt_Expr_any (PySem.ks_wpAt_MethodCall ?_ he))
    refine PySem.ks_wpAt_super_base (env := PySem.W.ksEnv q ⟨.function, snames, false, false, smore⟩ s.heap.objs.size fI (.ref cda) cc) s1 s2 (by decide) rfl (X0 _ _ lk) rfl a1 rfl (X0 _ _ lc) rfl hvs hfile T.top ?_
    refine PySem.W.ks_loadName_global rfl s1 (loadGlobal_builtin (env := PySem.W.ksEnv q ⟨.function, snames, false, false, smore⟩ s.heap.objs.size fI (.ref cda) cc) G0 hmg B0 hmb ⟨rfl, ?_⟩)
    refine wpAny_loadName_free rfl s2 rfl ⟨_, X0 _ _ lcell, rfl⟩ ?_
    rw [a2]
    refine wpAny_loadName_local (env := PySem.W.ksEnv q ⟨.function, snames, false, false, smore⟩ s.heap.objs.size fI (.ref cda) cc) rfl s3 hns hself ?_
    have hC0 := X0 _ _ hC
    refine PySem.ks_wpAny_isType_cls hC0 rfl ⟨rfl, ?_⟩
    refine PySem.ks_wpAny_call_super hC0 rfl hx0 rfl (fun c e => by cases e) (PySem.W.looks_mroIn X0 T.sub) (fun h1 e1 k1 => ?_)
    have X1 : K.In h1 := X0.keeps k1
    have hx1 := k1 _ _ hx0
    have I1 : PySem.W.InstAt h1 x (PySem.HandSPX.excO C t0) C none := ⟨hx1, rfl, rfl, trivial⟩
    have hsup := T.sup
    unfold PySem.W.ks_superIn at hsup
    rw [hcl] at hsup
    refine PySem.W.kxs_getMethod PySem.W.kxs_ValueError e1 (PySem.W.looks_opaque X1 T.opq) (l₀ := .ref C :: bm) (fun A Q E s k q => wpAny_bind ((PySem.W.looks_clsIn X1 hcl) A _ E s k (wpAny_pure q))) rfl X1 hsup
      (I1.type.andThen (PySem.W.looks_subIn X1 T.isV)) (PySem.W.ks_ne X1 I1 hcl) (by decide) ?_
    have k2 : ∀ b o, h1.get? b = some o → (h1.push (PySem.W.kxs_mw "ValueError.__init__" x)).get? b = some o := fun b o e => Heap.get?_push_of_some _ e
    have hu : (h1.push (PySem.W.kxs_mw "ValueError.__init__" x)).get? h1.objs.size = some (PySem.W.kxs_mw "ValueError.__init__" x) := Heap.get?_push_at rfl rfl
    refine PySem.W.kxs_callWith (i := "ValueError.__init__") (x := x) rfl (evalArgs_plain (Calls.spliced_cons (Calls.Constant_str (k := j) (pos := p3) (Calls.spliced_nil ⟨hu, ?_⟩))))
    have X2 : K.In (h1.push (PySem.W.kxs_mw "ValueError.__init__" x)) := X1.keeps k2
    have hx2 := k2 _ _ hx1
    refine mw_call T.oex X2 hx2 hu (by show 1 ≤ sizeLine; rw [sizeLine_eq]; omega) fun h3 t3 k3 hx3 => ?_
    obtain ⟨f, fs', rfl⟩ : ∃ f fs', fs = f :: fs' := by
      cases fs with
      | nil => exact (hfs rfl).elim
      | cons f fs => exact ⟨f, fs, rfl⟩
    obtain ⟨u, us', rfl⟩ : ∃ u us', us = u :: us' := by
      cases us with
      | nil => simp at hl
      | cons u us => exact ⟨u, us, rfl⟩
    have k13 : ∀ b o, b ≠ x → h₀.get? b = some o → h3.get? b = some o := fun b o hb e => k3 b o hb (k2 b o (k1 b o e))
    refine wpAt_of_wpAny (puts_new (cda := cda) (cc := cc) T.oex rfl s3 P (by simpa using hl) T.noN s4 T.nc (kept_but' X0 hnx k13) hnx hx3 (by simp at hz; omega) (hns.at fun o e => k13 _ o hLx e) hLx hself hfld fun h4 tk4 dx M => ?_)
    refine hq h4 tk4 dx t3 ⟨fun b o hb e => M.keep b o hb (k13 b o hb (hk₀ b o e)), M.obj, ?_, M.dne, M.ns⟩
    have z : s.heap.objs.size < h3.objs.size := (hns.at fun o e => k13 _ o hLx e).lt
    exact Nat.le_of_lt (Nat.lt_of_lt_of_le z M.dbig)
structure XMade (h h' : Heap) (e C d : Addr) (m : Str → Option Value) : Prop where
  keep : ∀ b o, h.get? b = some o → h'.get? b = some o
  new : h.objs.size ≤ e
  obj : ∃ oe vs, h'.get? e = some oe ∧ oe.cls = .ref C ∧ oe.dict = some d ∧ oe.data = .fields vs ∧ vs[1]? = some .none
  dbig : h.objs.size ≤ d
  dne : d ≠ e
  ns : h'.Ns1 d m
theorem xi_made {fs : List Str} {us : List Value} {R : Result → Shared → Prop} {s : Shared} {mg mb : Str → Option Value} (T : XTxt K prog C fs fI cda cc) (X : K.In s.heap) (hlim : s.heap.NoLimit) (G : s.heap.Ns mainGlobals mg) (hmg : mg "super" = none) (B : s.heap.Ns builtinsNs mb) (hmb : mb "super" = some (.type "super"))
    (hroom : A.depth + 1 < recursionLimit) (hl : us.length = fs.length) (hfs : fs ≠ []) (hz : fs.length ≤ 900)
    (hq : ∀ h' tk e d, XMade s.heap h' e C d (putAll (fs.zip us) fun _ => none) → R (.ok (.ret (.ref e))) { s with heap := h', toks := tk }) :
    codeAny (model prog w) A (.call (.ref C) ⟨us, []⟩) R s := by
  obtain ⟨nm, q, N, bs, bm, sn, sub, ab, col, dd, k0, k1, k2, k3, k5, hC, hbm⟩ := T.oex.cls
  obtain ⟨hp, g, dr, tk, os⟩ := s
  have k : ∀ b o, hp.get? b = some o → ((hp.push (PySem.W.kdv_tup us)).push (PySem.HandSPX.excO C hp.objs.size)).get? b = some o := fun b o e => Heap.get?_push_of_some _ (Heap.get?_push_of_some _ e)
  have hget : ((hp.push (PySem.W.kdv_tup us)).push (PySem.HandSPX.excO C hp.objs.size)).get? (hp.objs.size + 1) = some (PySem.HandSPX.excO C hp.objs.size) := by heap_get
  have hnx : K.lookup (hp.objs.size + 1) = none := no_key X (Nat.le_succ _)
  refine PySem.HandSPX.call_own F.excBase_ValueError (fun Y => PySem.HandSPX.refsVE_contains Y bm hbm) (X _ _ hC) (PySem.W.looks_findIn X T.iC) (fun self => PySem.W.bind_fn X self T.tI) (by rw [hl, sizeLine_eq]; omega) ?_
  refine xi_init (s := ⟨(hp.push (PySem.W.kdv_tup us)).push (PySem.HandSPX.excO C hp.objs.size), g, dr, tk, os⟩) T (X.keeps k) (hlim.keeps k) (G.keeps k) hmg (B.keeps k) hmb hget hnx ?_ hl hfs hz fun h' tk' dx t1 M => ?_
  · show A.depth + 1 < recursionLimit
    exact hroom
  · have old : ∀ b o, hp.get? b = some o → h'.get? b = some o := fun b o e => M.keep b o (Nat.ne_of_lt (Nat.lt_succ_of_lt (Heap.lt_size e))) (k b o e)
    have z : hp.objs.size + 1 + 1 ≤ dx := by
      have q := M.dbig
      first
        | (simpa only [Heap.size_push] using q)
        | exact q
        | (rw [Heap.size_push, Heap.size_push] at q; exact q)
    exact ⟨rfl, hq h' tk' (hp.objs.size + 1) dx ⟨old, Nat.le_succ _, ⟨_, _, M.obj, rfl, rfl, rfl, rfl⟩, Nat.le_trans (Nat.le_trans (Nat.le_succ _) (Nat.le_succ _)) z, M.dne, M.ns⟩⟩
end
section
variable {X : Cx} {C fI cda cc : Addr}
/-- C(e, ..) -/
def tMkX (C : Addr) (fs : List Str) (ta : TA) : L2.St → Hp → XK → Prop := fun σ H Q => ta σ H fun vs H1 => vs.length = fs.length ∧ ∀ d, H1 d = none → Q (.ref C) (some d) (upd H1 d (.xd (fs.zip vs)))
theorem zip_paired {fs : List Str} : ∀ {vs : List V} {us : List Value}, Vals vs us → vs.length = fs.length → Paired (fun (p : Str × V) (q : Str × Value) => p.1 = q.1 ∧ RelV p.2 q.2) (fs.zip vs) (fs.zip us) := by
  induction fs with
  | nil => intro vs us r h; rw [List.zip_nil_left, List.zip_nil_left]; exact .nil
  | cons f fs ih =>
    intro vs us r h
    cases r with
    | nil => simp at h
    | cons rv r => exact .cons ⟨rfl, rv⟩ (ih r (by simpa using h))
theorem pmk_x {x : Str} {fs : List Str} {e : Expr} {es : List Expr} {ta : TA} {p pos : Pos} {k : Nat} (T : XTxt X.K X.prog C fs fI cda cc) (hfs : fs ≠ []) (hz : fs.length ≤ 900) (hr : Room k X.A) (ha : PA X (e :: es) ta) (hg : Gl X x) (hm : X.mg x = some (.ref C)) (hsup : X.mg "super" = none)
    (hdb : (x == ("__debug__" : Str)) = false) (he : starEach (e :: es) X.env = (false, eval e X.env) :: starEach es X.env) (hpl : (backTo pos (starEach es X.env)).any (·.1) = false) :
    PMk X (.Call (.Name x p) (e :: es) [] pos) (tMkX C fs ta) := by
  intro pins s σ H Q I h
  refine wpAny_Call_Name_kw (ld_glob I hg hm ?_ hdb)
  refine PySem.W.callWith_K (h₀ := X.base) I.ok.mod.kin T.oex.kC (thn (ha.run pos pins s σ H _ I h) fun us s1 hh => ?_) he hpl
  obtain ⟨vs, H1, I1, r1, hl, q1⟩ := hh
  refine ⟨I1.kIn, ?_⟩
  show wpAny _ _ (call (.ref C) us) _ _ _
  have hlim := I1.nolimit
  obtain ⟨mb, hB, hbt⟩ := I1.mod.blt
  have hG := I1.mod.glob.keeps I1.bk
  have hlu : us.length = fs.length := by rw [← Paired.length r1]; exact hl
  obtain ⟨hp, g, dr, tk, os⟩ := s1
  refine wpAny_call (xi_made T I1.kIn hlim hG hsup (hB.keeps I1.bk) ((hbt "super" (by decide)).trans (by first | rfl | kernel_rfl)) (by have := hr.dp; omega) hlu hfs hz fun h' tk' e d M => ?_)
  show MkP X pins σ Q (.ref e) ⟨h', g, dr, tk', os⟩
  obtain ⟨oe, fv, hoe, hc, hd, hdat, h1⟩ := M.obj
  have hns := M.ns
  obtain ⟨G', g1, g2⟩ := restrict h' fun b => decide (b ≠ e)
  have gk : ∀ b, b ≠ e → G'.get? b = h'.get? b := fun b hb => g1 b (decide_eq_true hb)
  have ge : G'.get? e = none := g2 e (by simp)
  have old : ∀ b o, hp.get? b = some o → G'.get? b = some o := fun b o q => (gk b (Nat.ne_of_lt (Nat.lt_of_lt_of_le (Heap.lt_size q) M.new))).trans (M.keep b o q)
  have rel : ∀ f, RelO ((fs.zip vs).lookup f) (putAll (fs.zip us) (fun _ => none) f) := fun f => by
    have z := relO_putAll (b := []) (m := fun _ => none) (zip_paired r1 hl) (fun _ => trivial) f
    rw [List.append_nil, lookup_rev (by rw [zip_keys _ _ hl]; exact T.nd)] at z
    exact z
  have ob : ObjOk X.prog X.w (upd H1 d (.xd (fs.zip vs))) G' d (.xd (fs.zip vs)) := ⟨_, hns.at (fun o q => (gk d M.dne).trans q), rel⟩
  have J : Inv X pins σ (upd H1 d (.xd (fs.zip vs))) ⟨G', g, dr, tk', os⟩ := I1.laid (t' := tk') old M.dbig ob
  refine ⟨e, oe, fv, ⟨G', g, dr, tk', os⟩, _, .ref C, some d, rfl, J, fun b o q => ?_, ge, hoe, ⟨hc, hd⟩, hdat, h1, ?_, rfl, I1.bare, raises_own T.oex.exC T.oex.tyC, q1 d (I1.hok.fresh M.dbig)⟩
  · by_cases hb : b = e
    · have q' : G'.get? b = some o := q
      rw [hb, ge] at q'; cases q'
    · exact (gk b hb).symm.trans q
  · rw [upd_ne (Ne.symm M.dne)]
    exact I1.hok.fresh M.new
/-! ### raise C(e, ..) -/
def sRaise (ci n : Nat) (l : ML) : MS := fun c t h => (l c t h).toS t fun ds h' => if ds.length = n then .exn ci ds t h' else .stuck
theorem ds_raise {CL : List XC} {W : WX} {c : Calls} {x : Str} {fs : List Str} {ci n : Nat} {e : Expr} {es : List Expr} {l : ML} {p pos pos2 : Pos} {k : Nat} (hc : X.calm = true) (tk : Takes X W) (T : XTxt X.K X.prog C fs fI cda cc) (hCL : CL[ci]? = some ⟨C, fs⟩) (hn : fs.length = n) (hfs : fs ≠ []) (hz : fs.length ≤ 900) (hr : Room k X.A)
    (ha : DA X CL W c (e :: es) l) (hg : Gl X x) (hm : X.mg x = some (.ref C)) (hsup : X.mg "super" = none) (hdb : (x == ("__debug__" : Str)) = false) (he : starEach (e :: es) X.env = (false, eval e X.env) :: starEach es X.env) (hpl : (backTo pos (starEach es X.env)).any (·.1) = false) :
    DS X CL W c (.Raise (some (.Call (.Name x p) (e :: es) [] pos)) none pos2) (sRaise ci n l) :=
  psimp (ps_raise hc tk (pmk_x T hfs hz hr ha hg hm hsup hdb he hpl)) fun E σ H ⟨r, t, h, Y, S, q⟩ => (rs_bind Y S q).mono fun vs H1 ⟨r1, h1, ds, e1, Y1, S1, rv, q1⟩ => by
    by_cases hd : ds.length = n
    · rw [if_pos hd] at q1
      refine ⟨by rw [rv.len, hd, hn], fun d nd => ?_⟩
      have x1 : Ext r1 H1 r1 (upd H1 d (.xd (fs.zip vs))) := Ext.laid nd
      refine q1 (.ref C) (some d) σ r1 _ x1 (Y1.laid nd) (S1.mono x1) ⟨⟨C, fs⟩, vs, hCL, rfl, rv.mono x1, by rw [hd, ← hn], .inl ⟨d, rfl, upd_same, Y1.fresh nd⟩⟩
    · rw [if_neg hd] at q1; exact q1.elim
end
end Ev

/-! Ev13: try .. except, a caught error's field, isinstance of a caught error. -/
namespace Ev
open PySem PySem.Spec PyProof.Rows L2 PySem.Calls
open PySem.W (Frag)

/-! ### isinstance of an error that may bear fields -/
section
open PySem.W
variable {prog : Program} {w : World} {A : Around} {E : Value → Shared → Prop} {s : Shared} {K : Frag} {x D : Addr} {ox : Obj}
theorem findObj_dataX {C : Addr} {od : Option Obj} {name : Str} {a g : Value} (hc : (clsIn K C).isSome = true) (ha : findIn K (.ref C) name = some (some a)) (hg : specialIn K a "__get__" = some (some g)) (ht : takesIn K a = some true) : findObj K C od name = some (.bind g a) := by
  obtain ⟨cd, hc⟩ := Option.isSome_iff_exists.mp hc
  unfold findObj
  rw [hc, Option.bind_some, ha, Option.bind_some]
  simp [hg, ht]
theorem kin_classX {od : Option Obj} {Q : Option Value → Shared → Prop} (T : ExcC K D) (X : K.In s.heap) (I : InstAt s.heap x ox D od) (h : Q (some (.ref D)) { s with toks := s.toks + 1 }) : wpAny (model prog w) A (getAttr? (.ref x) "__class__") Q E s := by
  have hf : findObj K D od "__class__" = some (.bind (.builtin "getset_descriptor.__get__") (.builtin "object.__class__")) := findObj_dataX (by obtain ⟨cd, hc, _⟩ := any_some T.hd; rw [hc]; rfl) T.ha T.hn T.ht
  obtain ⟨hp, g, d, t, os⟩ := s
  have L0 := I.type (M := model prog w)
  have L1 := looks_findIn (M := model prog w) X T.hg
  have L2 := looks_findIn (M := model prog w) X T.hk
  have L3 := looks_find (M := model prog w) X I hf
  have sub : Looks (model prog w) hp (isInstance (.ref x) (.type "BaseException")) true := L0.andThen (looks_subIn X T.hs)
  have hx0 : (false && onTheHeap (Value.builtin "BaseException.__getattribute__")) = false := rfl
  have hx2 : (Value.builtin "BaseException.__getattribute__" == Value.builtin "object.__getattribute__") = false := by decide +kernel
  have hx1 : (onTheHeap (Value.ref D) && Value.builtin "BaseException.__getattribute__" == Value.builtin "object.__getattribute__") = false := by rw [hx2]; rfl
  unfold getAttr? getAttrBy? getAttrBy
  refine wpAny_bind (wpAny_mkText (wpAny_bind (wpAny_attempt (wpAny_holding (wpAny_bind (L0.at (wpAny_bind (L1.at ?_))))))))
  show wpAny _ _ (if (onTheHeap (Value.ref D) && Value.builtin "BaseException.__getattribute__" == Value.builtin "object.__getattribute__") = true then _ else _) _ _ _
  rw [hx1, if_neg Bool.false_ne_true]
  unfold getAttrByItsOwn hookBefore
  refine wpAny_bind ?_
  rw [if_pos (show onTheHeap (Value.ref D) = true from rfl)]
  refine L2.at ?_
  refine wpAny_bind (wpAny_attempt (wpAny_holding ?_))
  unfold callGetattribute
  rw [hx0, if_neg Bool.false_ne_true]
  unfold boundAndCalled
  rw [PySem.F.excAttr_ValueError.ga.bind (.ref x)]
  refine wpAny_bind (wpAny_pure ?_)
  show wpAny _ _ (call (.builtin "BaseException.__getattribute__") [.ref x, .str "__class__" t]) _ _ _
  refine wpAny_call (codeAny_call_builtin PySem.F.excAttr_ValueError.ga.plain PySem.F.entry_bexc_ga ?_)
  refine @check_slot (model prog w) _ _ ⟨hp, g, d, t + 1, os⟩ "BaseException.__getattribute__" "BaseException" "__getattribute__" (.ref x) [.str "__class__" t] [] _ (by decide +kernel) (by decide +kernel) sub (PySem.F.args_bexc_ga (.ref x) (.str "__class__" t)) ?_
  unfold Builtin.«object.__getattribute__»
  refine wpAny_bind (wpAny_of_eq (a := ((Value.ref x : Value), [Value.str "__class__" t])) (by first | rfl | (simp only [slotArgs]; rfl)) ?_)
  refine wpAny_bind (wpAny_pure (wpAny_bind (L0.at (wpAny_bind (L3.at ?_)))))
  show wpAny _ _ (holding [Value.builtin "object.__class__"] (call (.builtin "getset_descriptor.__get__") [.builtin "object.__class__", .ref x, .ref D]) >>= ret) _ _ _
  refine wpAny_bind (wpAny_holding (wpAny_call (class_get (s := ⟨hp, g, d, t + 1, os⟩) (ox := ox) (od := od) X I T.hm ?_)))
  refine wpAny_pure ?_
  show wpAny _ _ (handedOut (.ref D)) _ _ _
  rw [handedOut_of (v := .ref D) rfl]
  first
    | exact wpAny_pure (wpAny_pure h)
    | exact wpAny_pure h
    | exact wpAny_pure (wpAny_bind (wpAny_pure (wpAny_pure h)))
theorem kitx_excX (T : ExcC K D) : KitX K (.ref x) (.ref D) (fun h => ∃ od, InstAt h x ox D od) where
  ty := fun _ _ _ ⟨_, I⟩ => I.type
  it := fun _ _ X _ => by
    obtain ⟨cdD, hcD, _⟩ := any_some T.hd
    unfold clsIn at hcD
    split at hcD
    · rename_i c' d' cd' sl' ho
      intro A' Q' E' s' k q
      unfold isType loadHead
      exact wpAny_bind (wpAny_loadPart (k _ _ (X _ _ ho)) (wpAny_pure q))
    · cases hcD
  ne := fun h tp dd its n sl X htp => by
    obtain ⟨cdD, hcD, _⟩ := any_some T.hd
    refine Bool.eq_false_iff.mpr fun q => ?_
    have e : D = tp := Value.ref.inj (beq_iff_eq.mp q)
    subst e
    unfold clsIn at hcD
    split at hcD
    · rename_i c' d' cd' sl' ho
      have z := (X _ _ ho).symm.trans htp
      cases z
    · cases hcD
  ca := fun X ⟨_, I⟩ k => kin_classX T X I k
end
/-- isinstance(e, c), e the exception that the suite holds, its dict d -/
def rIsX (K : PySem.W.Frag) (D a : Addr) (d : Option Addr) : List V → Hp → VK → Prop := fun xs H Q => ∃ (c : V) (cv : Value) (b : Bool), xs = [.ref a, c] ∧ (∀ u, RelV c u → u = cv) ∧ PySem.W.kitOne K (.ref D) cv = some b ∧ (d = none ∨ ∃ dd fs, d = some dd ∧ H dd = some (.xd fs)) ∧ Q (.bl b) H
theorem call_isX {X : Cx} {a D : Addr} {d : Option Addr} {oe : Obj} {pn : List (Addr × Obj)} (C : ExcC X.K D) (hz : Zc (.ref D) d oe) (hf : ∃ vs, oe.data = .fields vs) : CallR (X.suite a ((a, oe) :: pn)) (.builtin "isinstance") (rIsX X.K D a d) := by
  intro pins s σ H xs us Q I r h
  obtain ⟨c, cv, b, rfl, hcv, e, hd, q⟩ := h
  cases r with
  | cons rx rr =>
    cases rr with
    | cons rt rr =>
      cases rr
      cases rx
      have ec := hcv _ rt
      subst ec
      obtain ⟨hget, _⟩ := I.pin (a, oe) (List.mem_append.mpr (.inl List.mem_cons_self))
      obtain ⟨vs, hv⟩ := hf
      have J : ∃ od, PySem.W.InstAt s.heap a oe D od := by
        obtain ⟨oc, od, oda, osl⟩ := oe
        obtain ⟨h1, h2⟩ := hz
        dsimp only at h1 h2 hv
        subst h1 h2 hv
        rcases hd with hd | ⟨dd, fs, hd, hx⟩
        · subst hd
          exact ⟨none, hget, rfl, rfl, trivial⟩
        · subst hd
          obtain ⟨mA, hns, _⟩ : ObjOk X.prog X.w H s.heap dd (.xd fs) := I.hok dd _ hx
          obtain ⟨o, _, _, ho, _⟩ := hns
          exact ⟨some o, hget, rfl, rfl, ho⟩
      exact PySem.W.kia_one (kitx_excX C) I.kIn J e (fun z => nomatch z) fun tk => ⟨.bl b, H, I.kept (t' := tk) fun _ _ z => z, rfl, q⟩
/-! ### try -/
def SR.noX : SR → SR
  | .exn _ _ _ _ => .stuck
  | x => x
def SR.wipe (i : Nat) : SR → SR
  | .nx t h => .nx (t.set i none) h
  | .bk t h => .bk (t.set i none) h
  | .ct t h => .ct (t.set i none) h
  | x => x
open Classical in
noncomputable def uni (F : Addr → Option Addr → SR) : SR := if ∀ a d, F a d = F 0 none then F 0 none else .stuck
theorem uni_eq {F : Addr → Option Addr → SR} {x : SR} (h : ∀ a d, F a d = x) : uni F = x := by
  unfold uni
  rw [if_pos (fun a d => by rw [h, h])]
  exact h _ _
theorem uni_all {F : Addr → Option Addr → SR} (h : uni F ≠ .stuck) (a : Addr) (d : Option Addr) : uni F = F a d := by
  unfold uni at *
  by_cases q : ∀ a d, F a d = F 0 none
  · rw [if_pos q]; exact (q a d).symm
  · rw [if_neg q] at h; exact (h rfl).elim
def sTry (cs : Nat → Option Bool) (body suite : MS) : MS := fun c t h => match body c t h with
  | .exn k fs t1 h1 => match cs k with
    | some true => (suite c t1 h1).noX
    | some false => .exn k fs t1 h1
    | none => .stuck
  | r => r
noncomputable def sTryAs (cs : Nat → Option Bool) (nmf : Nat → List Str) (i : Nat) (body : MS) (suite : Addr → Option Addr → Nat → MS) : MS := fun c t h => match body c t h with
  | .exn k fs t1 h1 => match cs k with
    | some true => uni fun a dd => ((suite a dd k c (t1.set i (some (.exc a dd (nmf k) fs))) h1).noX).wipe i
    | some false => .exn k fs t1 h1
    | none => .stuck
  | r => r
section
variable {X : Cx} {CL : List XC} {W : WX} {c : Calls}
theorem noX_rd {K : Frag} {r : Rho} {H : Hp} {E : Ends} {x : SR} (q : rdS K CL W r H E x.noX) : rdS K CL W0 r H E x := by
  cases x <;> first | exact q | exact q.elim
theorem wipe_rd {K : Frag} {W : WX} {r : Rho} {H : Hp} {E : Ends} {i : Nat} {x : SR} (q : rdS K CL W0 r H E ((x.noX).wipe i)) :
    rdS K CL W0 r H { nx := fun σ' H' => E.nx (σ'.set i none) H', rt := E.rt, bk := fun σ' H' => E.bk (σ'.set i none) H', ct := fun σ' H' => E.ct (σ'.set i none) H' } x := by
  cases x with
  | nx t h => exact fun σ' r' H' x' Y S => q _ r' H' x' Y (S.none i)
  | bk t h => exact fun σ' r' H' x' Y S => q _ r' H' x' Y (S.none i)
  | ct t h => exact fun σ' r' H' x' Y S => q _ r' H' x' Y (S.none i)
  | rt d h => exact q
  | exn a b c d => exact q.elim
  | stuck => exact q
theorem ds_try {x : Str} {v : Value} {cs : Nat → Option Bool} {body suite : List Stmt} {b₀ : Stmt} {mb ms : MS} {np pos pos' : Pos} (hs : X.stack = X.env :: X.outer) (hf : X.env.frame = some X.env.locals) (hc : Names X x v) (tk : Takes X W)
    (hcs : ∀ k y b, CL[k]? = some y → cs k = some b → PySem.W.exmOne X.K (.ref y.addr) v = some b)
    (hb : ∀ (W : WX) (pn : List (Addr × Obj)) (xe : Value → Shared → Prop), Takes (X.tr pn xe) W → PassesOwn (model X.prog X.w) X.A X.env xe → DSs (X.tr pn xe) CL W c body mb)
    (hsu : ∀ (a : Addr) (oe : Obj) (pn : List (Addr × Obj)), DSs (X.suite a ((a, oe) :: pn)) CL W0 c (b₀ :: suite) ms) :
    DS X CL W c (.Try body [.ExceptHandler (some (.Name x np)) none (b₀ :: suite) pos'] [] [] pos) (sTry cs mb ms) :=
  psimp (ps_try_only (tb := fun W => rs X.K CL W c mb) (ts := fun _ _ _ => rs X.K CL W0 c ms) (Wout := W) hs hf hc tk hb (fun a oe cls d pn _ _ => hsu a oe pn)) fun E σ H ⟨r, t, h, Y, S, q⟩ => ⟨r, t, h, Y, S, by
    unfold sTry at q
    cases e : mb c t h with
    | nx t h => rw [e] at q; exact q
    | rt d h => rw [e] at q; exact q
    | bk t h => rw [e] at q; exact q
    | ct t h => rw [e] at q; exact q
    | stuck => rw [e] at q; exact q
    | exn k fs t1 h1 =>
      rw [e] at q
      intro cls dd σ' r' H' x' Y' S' ex
      obtain ⟨y, vs, hy, hcls, ra, hl, hd⟩ := id ex
      cases hk : cs k with
      | none => simp only [hk] at q; exact q.elim
      | some b =>
        refine ⟨b, by rw [hcls]; exact hcs k y b hy hk, fun hb a _ => ?_, fun hb => ?_⟩
        · subst hb
          simp only [hk] at q
          exact ⟨r', t1, h1, Y', S', noX_rd (q.ext x')⟩
        · subst hb
          simp only [hk] at q
          exact q cls dd σ' r' H' x' Y' S' ex⟩
theorem ds_tryAs {x n : Str} {v : Value} {i : Nat} {cs : Nat → Option Bool} {nmf : Nat → List Str} {body suite : List Stmt} {b₀ : Stmt} {mb : MS} {ms : Addr → Option Addr → Nat → MS} {np pos pos' : Pos} (hs : X.stack = X.env :: X.outer) (hf : X.env.frame = some X.env.locals) (hN : X.N.Nodup) (hi : X.N[i]? = some n) (hln : X.env.kindOf n = some .local)
    (hc : Names X x v) (tk : Takes X W) (hcs : ∀ k y b, CL[k]? = some y → cs k = some b → PySem.W.exmOne X.K (.ref y.addr) v = some b) (hnm : ∀ k y, CL[k]? = some y → nmf k = y.fields)
    (hb : ∀ (W : WX) (pn : List (Addr × Obj)) (xe : Value → Shared → Prop), Takes (X.tr pn xe) W → PassesOwn (model X.prog X.w) X.A X.env xe → DSs (X.tr pn xe) CL W c body mb)
    (hsu : ∀ (a : Addr) (oe : Obj) (d : Option Addr) (pn : List (Addr × Obj)) (k : Nat) (y : XC), CL[k]? = some y → cs k = some true → Zc (.ref y.addr) d oe → (∃ vs, oe.data = .fields vs) → DSs (X.suite a ((a, oe) :: pn)) CL W0 c (b₀ :: suite) (ms a d k)) :
    DS X CL W c (.Try body [.ExceptHandler (some (.Name x np)) (some n) (b₀ :: suite) pos'] [] [] pos) (sTryAs cs nmf i mb ms) :=
  psimp (ps_try_as (i := i) (tb := fun W => rs X.K CL W c mb) (ts := fun a cls d E σ H => ∃ k y, CL[k]? = some y ∧ cs k = some true ∧ cls = .ref y.addr ∧ rs X.K CL W0 c (ms a d k) E σ H) (Wout := W) hs hf hN hi hln hc tk hb
    (fun a oe cls d pn hz hfd => ⟨fun pins s σ H D I ⟨k, y, hy, hk, hcl, q⟩ => (hsu a oe d pn k y hy hk (by rw [← hcl]; exact hz) hfd).run pins s σ H D I q⟩)) fun E σ H ⟨r, t, h, Y, S, q⟩ => ⟨r, t, h, Y, S, by
    unfold sTryAs at q
    cases e : mb c t h with
    | nx t h => rw [e] at q; exact q
    | rt d h => rw [e] at q; exact q
    | bk t h => rw [e] at q; exact q
    | ct t h => rw [e] at q; exact q
    | stuck => rw [e] at q; exact q
    | exn k fs t1 h1 =>
      rw [e] at q
      intro cls dd σ' r' H' x' Y' S' ex
      obtain ⟨y, vs, hy, hcls, ra, hl, hd⟩ := id ex
      cases hk : cs k with
      | none => simp only [hk] at q; exact q.elim
      | some b =>
        refine ⟨b, by rw [hcls]; exact hcs k y b hy hk, fun hb a _ => ?_, fun hb => ?_⟩
        · subst hb
          simp only [hk] at q
          have hnm' := hnm k y hy
          have rx : Rep X.K H' r' (.ref a) (.exc a dd (nmf k) fs) := by
            refine .exc (vs := vs) ?_ (fun z => ?_) (by rw [hnm', ra.len, hl]) ra
            · rw [hnm']
              exact hd.imp id (fun z => z.1)
            · rcases hd with ⟨d, e, _⟩ | ⟨_, e⟩
              · rw [z] at e; cases e
              · exact e
          refine ⟨k, y, hy, hk, hcls, r', _, h1, Y', S'.set i rx, wipe_rd (W := W) ?_⟩
          have nst : uni (fun a dd => ((ms a dd k c (t1.set i (some (.exc a dd (nmf k) fs))) h1).noX).wipe i) ≠ .stuck := fun z => by rw [z] at q; exact q
          rw [uni_all nst a dd] at q
          have q2 := rdS.ext x' q
          cases e2 : ms a dd k c (t1.set i (some (.exc a dd (nmf k) fs))) h1 with
          | exn _ _ _ _ => rw [e2] at q2; exact q2.elim
          | stuck => rw [e2] at q2; exact q2
          | nx _ _ => rw [e2] at q2; exact q2
          | rt _ _ => rw [e2] at q2; exact q2
          | bk _ _ => rw [e2] at q2; exact q2
          | ct _ _ => rw [e2] at q2; exact q2
        · subst hb
          simp only [hk] at q
          exact q cls dd σ' r' H' x' Y' S' ex⟩
end
/-! ### the caught error's field, isinstance -/
def dFld (a : Addr) (dd : Option Addr) (nm : List Str) (f : Str) (x : D) (h : Hd) : Res D := match x with
  | .exc a' dd' nm' fs => if a' = a ∧ dd' = dd ∧ nm' = nm then (match (nm.zip fs).lookup f with
    | some d => .ok d h
    | none => .stuck) else .stuck
  | _ => .stuck
def dIsX (a : Addr) (dd : Option Addr) (b : Bool) (x : D) (h : Hd) : Res D := match x with
  | .exc a' dd' _ _ => if a' = a ∧ dd' = dd then .ok (.bl b) h else .stuck
  | _ => .stuck
section
variable {X : Cx} {CL : List XC} {W : WX} {c : Calls}
theorem zip_look {K : Frag} {H : Hp} {r : Rho} {f : Str} {d : D} : ∀ {nm : List Str} {vs : List V} {ds : List D}, RepA K H r vs ds → (nm.zip ds).lookup f = some d → ∃ v, (nm.zip vs).lookup f = some v ∧ Rep K H r v d
  | [], _, _, _, h => by simp at h
  | _ :: _, _, _, .nil, h => by simp at h
  | g :: nm, _, _, .cons q k, h => by
    rw [List.zip_cons_cons, List.lookup_cons] at h ⊢
    split at h
    · rename_i e
      cases h
      exact ⟨_, rfl, q⟩
    · exact zip_look k h
theorem de_fld {a C : Addr} {oe : Obj} {d : Option Addr} {pn : List (Addr × Obj)} {nm : List Str} {f : Str} {e : Expr} {m : M} {pos : Pos} (T : XfC X.K C) (hno : f ∈ nm → PySem.W.findIn X.K (.ref C) f = some none) (hz : Zc (.ref C) d oe) (hf : ∃ vs, oe.data = .fields vs)
    (he : DE (X.suite a ((a, oe) :: pn)) CL W c e m) (hm : f ∈ nm) (hb : attributeBase e f X.env (eval e X.env) = eval e X.env) : DE (X.suite a ((a, oe) :: pn)) CL W c (.Attribute e f pos) (mUn (dFld a d nm f) m) :=
  pimp (pe_xf (cls := .ref C) T (hno hm) hz hf he hb) fun σ H Q ⟨r, t, h, Y, S, q⟩ => (rd_bind Y S q).mono fun v H1 ⟨r1, h1, x, e1, Y1, S1, rv, q1⟩ => by
    unfold dFld at q1
    split at q1
    · rename_i a' dd' nm' fs
      split at q1
      · rename_i hc
        obtain ⟨rfl, rfl, rfl⟩ := hc
        split at q1
        · rename_i y ey
          cases rv with
          | exc hd hz0 hl ra =>
            obtain ⟨v', e2, rv'⟩ := zip_look ra ey
            rcases hd with ⟨d', rfl, hx, _⟩ | rfl
            · exact ⟨rfl, rfl, d', _, v', rfl, hx, e2, q1.now Y1 rv'⟩
            · rw [hz0 rfl] at ey
              simp at ey
        · exact q1.elim
      · exact q1.elim
    · exact q1.elim
theorem de_isX {a C : Addr} {oe : Obj} {d : Option Addr} {pn : List (Addr × Obj)} {cx : V} {cv : Value} {b : Bool} {e1 e2 : Expr} {m : M} {p pos : Pos} {x : Str} (T : ExcC X.K C) (hz : Zc (.ref C) d oe) (hf : ∃ vs, oe.data = .fields vs) (hg : Gl X x) (hm : X.mg x = none) (hv : bootBuiltins x = some (.builtin "isinstance")) (hn : x ≠ "__name__") (hdb : (x == ("__debug__" : Str)) = false)
    (he : DE (X.suite a ((a, oe) :: pn)) CL W c e1 m) (h2 : PE (X.suite a ((a, oe) :: pn)) e2 (tC cx)) (hcx : ∀ u, RelV cx u → u = cv) (hk : PySem.W.kitOne X.K (.ref C) cv = some b)
    (hs : starEach [e1, e2] X.env = (false, eval e1 X.env) :: starEach [e2] X.env) (hs2 : starEach [e2] X.env = [(false, eval e2 X.env)]) (hpl : (backTo pos (starEach [e2] X.env)).any (·.1) = false) : DE (X.suite a ((a, oe) :: pn)) CL W c (.Call (.Name x p) [e1, e2] [] pos) (mUn (dIsX a d b) m) :=
  pimp (pe_callB (X := X.suite a ((a, oe) :: pn)) (call_isX T hz hf) hg hm hv (pa_cons he (pa_cons h2 pa_nil hs2) hs) hn hdb hs hpl) fun σ H Q ⟨r, t, h, Y, S, q⟩ => (rd_bind Y S q).mono fun v H1 ⟨r1, h1, y, e1, Y1, S1, rv, q1⟩ => by
    unfold dIsX at q1
    split at q1
    · split at q1
      · rename_i hc
        obtain ⟨rfl, rfl⟩ := hc
        cases rv with
        | exc hd _ hl ra => exact ⟨cx, cv, b, rfl, hcx, hk, hd.elim (fun ⟨d', e, hx, _⟩ => .inr ⟨d', _, e, hx⟩) .inl, q1.now Y1 (.bl _)⟩
      · exact q1.elim
    · exact q1.elim
end
end Ev

/-! Ev14: functions: the table, calls, the promise. -/
namespace Ev
open PySem PySem.Spec PyProof.Rows L2 PySem.Calls
open PySem.W (Frag)

structure FnD where
  np : Nat
  nn : Nat
  body : MS
open Classical in
noncomputable def fin1 (h : Hd) (d : D) (h' : Hd) : Res D := if d.lo h.length ∧ Clean h h' then .ok d (h'.take h.length) else .ok d h'
open Classical in
noncomputable def finX (h : Hd) (k : Nat) (fs : List D) (h' : Hd) : Res D := if D.loA h.length fs ∧ Clean h h' then .exn k fs (h'.take h.length) else .exn k fs h'
noncomputable def fin (h : Hd) : SR → Res D
  | .rt d h' => fin1 h d h'
  | .nx _ h' => fin1 h .non h'
  | .exn k fs _ h' => finX h k fs h'
  | _ => .stuck
noncomputable def runFn (F : FnD) (c : Calls) (ds : List D) (h : Hd) : Res D :=
  if ds.length = F.np then fin h (F.body c (ds.map some ++ List.replicate (F.nn - F.np) none) h) else .stuck
noncomputable def callN (T : List FnD) : Nat → Calls
  | 0 => fun _ _ _ => .stuck
  | n + 1 => fun i ds h => match T[i]? with
    | some F => runFn F (callN T n) ds h
    | none => .stuck
def rdC (K : Frag) (CL : List XC) (r : Rho) (H : Hp) (Q : VK) (E : XK) : Res D → Prop
  | .ok d h' => ∀ v r' H', Ext r H r' H' → R K r' h' H' → Rep K H' r' v d → Q v H'
  | .exn c fs h' => ∀ cls dd r' H', Ext r H r' H' → R K r' h' H' → ExR K CL H' r' c fs cls dd → E cls dd H'
  | .stuck => False
def spC (K : Frag) (CL : List XC) (g : List D → Hd → Res D) (n : Nat) : Sp := fun vs H Q E => vs.length = n ∧ ∃ r ds h, R K r h H ∧ RepA K H r vs ds ∧ rdC K CL r H Q E (g ds h)

theorem ExR.cut {K : Frag} {CL : List XC} {H : Hp} {r : Rho} {n k : Nat} {fs : List D} {cls : Value} {dd : Option Addr} (x : ExR K CL H r k fs cls dd) (b : D.loA n fs) : ExR K CL H (r.cut n) k fs cls dd := by
  obtain ⟨y, vs, h1, h2, h3, h4, h5⟩ := x
  exact ⟨y, vs, h1, h2, h3.cut b, h4, h5.imp (fun ⟨d, e, q, m⟩ => ⟨d, e, q, fun z => m (mem_take z)⟩) id⟩
section
variable {P : Program} {w : World} {K : Frag} {mg : Str → Option Value} {base : Heap} {CL : List XC}
/-- a def of the table, as its callers see it -/
def CalleeOk (P : Program) (w : World) (K : Frag) (mg : Str → Option Value) (base : Heap) (CL : List XC) (k : Nat) (g : List D → Hd → Res D) (x : Str) (ps : List Str) : Prop :=
  ∃ f fd, FnOk P w K mg base (L2.CX P w) k f fd ps (spC K CL g ps.length) ∧ mg x = some (.ref f) ∧ PySem.W.keepIn K (.ref f) = true ∧ Binds K fd ps [] ∧ ∀ ds h, ds.length ≠ ps.length → g ds h = .stuck
theorem start_slots {H : Hp} {r : Rho} {N : List Str} {vs : List V} {ds : List D} {np : Nat} (ra : RepA K H r vs ds) (hl : vs.length = np) : Slots K H r (L2.start N vs) (ds.map some ++ List.replicate (N.length - np) none) := by
  have hd := ra.len
  refine ⟨by unfold L2.start; simp; omega, fun i d e => ?_⟩
  by_cases hi : i < ds.length
  · rw [List.getElem?_append_left (by simpa using hi), List.getElem?_map] at e
    cases e1 : ds[i]? with
    | none => rw [e1] at e; cases e
    | some d' =>
      rw [e1] at e
      cases e
      obtain ⟨v, e2, rv⟩ := ra.get' e1
      refine ⟨v, ?_, rv⟩
      unfold L2.start
      rw [List.getElem?_append_left (by simp; omega), List.getElem?_map, e2]
      rfl
  · rw [List.getElem?_append_right (by simp; omega), List.getElem?_replicate] at e
    split at e <;> cases e
theorem fn_ok {x q : Str} {st : Stmt} {f : Addr} {fd : FuncData} {N ps : List Str} {F : FnD} {c : Calls} {k : Nat} (Fn : Fun K x q st f fd) (S : FnScope N ps (defScope st)) (hn : F.nn = N.length) (hp : F.np = ps.length)
    (hbody : ∀ (cdv : Value) (A : Around) (outer : List Env) (s : Shared) (H : Hp) (E : XK), Room k (A.deeper (envOfC q (defScope st) s.heap.objs.size f cdv)) →
      DSs (cxOf (L2.CX P w) P w K mg base N q (defScope st) f cdv A outer s H E) CL (fun cls d _ H => E cls d H) c (defBody st) F.body) :
    FnOk P w K mg base (L2.CX P w) (k + 1) f fd ps (spC K CL (runFn F c) ps.length) := by
  refine Fn.okX S (fun vs H Q E h => h.1) (fun cdv A outer s H vs Q E hr h => ⟨rs K CL (fun cls d _ H => E cls d H) c F.body, hbody cdv A outer s H E hr, ?_⟩)
  obtain ⟨hl, r, ds, h, Y, ra, q⟩ := h
  have hd := ra.len
  refine ⟨r, ds.map some ++ List.replicate (N.length - ps.length) none, h, Y, start_slots ra hl, ?_⟩
  unfold runFn at q
  rw [if_pos (by rw [hp, ← hl, hd]), hn, hp] at q
  have done : ∀ {d : D} {h' : Hd}, rdC K CL r H Q E (fin1 h d h') → ∀ v r' H', Ext r H r' H' → R K r' h' H' → Rep K H' r' v d → Q v H' := fun {d h'} q v r' H' x' Y' rv => by
    unfold fin1 at q
    by_cases hc : d.lo h.length ∧ Clean h h'
    · rw [if_pos hc] at q
      exact q v _ H' (x'.cut (Nat.le_of_eq Y.len)) (Y.cut Y' hc.2) (rv.cut hc.1)
    · rw [if_neg hc] at q
      exact q v r' H' x' Y' rv
  cases e : F.body c (ds.map some ++ List.replicate (N.length - ps.length) none) h with
  | rt d h' => rw [e] at q; exact done q
  | nx t h' => rw [e] at q; exact fun σ' r' H' x' Y' S' => done (d := .non) q .non r' H' x' Y' .non
  | bk t h => rw [e] at q; exact q.elim
  | ct t h => rw [e] at q; exact q.elim
  | stuck => rw [e] at q; exact q.elim
  | exn j fs t h' =>
    rw [e] at q
    intro cls dd σ' r' H' x' Y' S' ex
    have q : rdC K CL r H Q E (finX h j fs h') := q
    unfold finX at q
    by_cases hc : D.loA h.length fs ∧ Clean h h'
    · rw [if_pos hc] at q
      exact q cls dd _ H' (x'.cut (Nat.le_of_eq Y.len)) (Y.cut Y' hc.2) (ex.cut hc.1)
    · rw [if_neg hc] at q
      exact q cls dd r' H' x' Y' ex
/-- the table: names, parameters, bodies -/
abbrev Tab := List (Str × List Str × FnD)
def AllOk (P : Program) (w : World) (K : Frag) (mg : Str → Option Value) (base : Heap) (CL : List XC) (T : Tab) (k : Nat) (c : Calls) : Prop := ∀ j e, T[j]? = some e → CalleeOk P w K mg base CL k (c j) e.1 e.2.1
/-- a row of the table stands in the text -/
def RowOk (P : Program) (w : World) (K : Frag) (mg : Str → Option Value) (base : Heap) (CL : List XC) (T : Tab) (B : Nat) (e : Str × List Str × FnD) : Prop :=
  ∃ f fd st N, Fun K e.1 e.1 st f fd ∧ mg e.1 = some (.ref f) ∧ Binds K fd e.2.1 [] ∧ FnScope N e.2.1 (defScope st) ∧ e.2.2.nn = N.length ∧ e.2.2.np = e.2.1.length ∧
    ∀ (c : Calls) (k : Nat), B ≤ k → AllOk P w K mg base CL T k c → ∀ (cdv : Value) (A : Around) (outer : List Env) (s : Shared) (H : Hp) (E : XK), Room k (A.deeper (envOfC e.1 (defScope st) s.heap.objs.size f cdv)) →
      DSs (cxOf (L2.CX P w) P w K mg base N e.1 (defScope st) f cdv A outer s H E) CL (fun cls d _ H => E cls d H) c (defBody st) e.2.2.body
theorem all_ok {T : Tab} {B : Nat} (h : ∀ e ∈ T, RowOk P w K mg base CL T B e) : ∀ n, AllOk P w K mg base CL T (B + n) (callN (T.map (·.2.2)) n)
  | 0 => fun j e hj => by
    obtain ⟨f, fd, st, N, Fn, hm, hb, S, h1, h2, hbody⟩ := h e (List.mem_of_getElem? hj)
    exact ⟨f, fd, ⟨fun vs H Q E h => h.1, fun A outer s H args us vs Q E _ _ _ _ hs => by obtain ⟨_, r, ds, h, _, _, q⟩ := hs; exact q.elim⟩, hm, Fn.kp, hb, fun _ _ _ => rfl⟩
  | n + 1 => fun j e hj => by
    obtain ⟨f, fd, st, N, Fn, hm, hb, S, h1, h2, hbody⟩ := h e (List.mem_of_getElem? hj)
    have ih := all_ok h n
    have e1 : callN (T.map (·.2.2)) (n + 1) j = runFn e.2.2 (callN (T.map (·.2.2)) n) := by
      funext ds h
      show (match (T.map (·.2.2))[j]? with | some F => _ | none => _) = _
      rw [List.getElem?_map, hj]
      rfl
    rw [e1]
    refine ⟨f, fd, ?_, hm, Fn.kp, hb, fun ds h hl => by unfold runFn; rw [if_neg (by rw [h2]; exact hl)]⟩
    exact fn_ok Fn S h1 h2 fun cdv A outer s H E hr => hbody _ _ (Nat.le_add_right _ _) ih cdv A outer s H E hr
end
section
variable {X : Cx} {CL : List XC} {W : WX} {c : Calls}
theorem de_call {x : Str} {ps : List Str} {j k : Nat} {e : Expr} {es : List Expr} {l : ML} {p pos : Pos} (C : CalleeOk X.prog X.w X.K X.mg X.base CL k (c j) x ps) (hr : Room k X.A) (hg : Gl X x) (tk : Takes X W) (ha : DA X CL W c (e :: es) l)
    (hdb : (x == ("__debug__" : Str)) = false) (he : starEach (e :: es) X.env = (false, eval e X.env) :: starEach es X.env) (hpl : (backTo pos (starEach es X.env)).any (·.1) = false) : DE X CL W c (.Call (.Name x p) (e :: es) [] pos) (mCall j l) := by
  obtain ⟨f, fd, F, hm, hk, hb, hlen⟩ := C
  refine pimp (pe_callS F hr hg hm hk hb (fun σ => passAt tk σ) ha hdb he hpl) fun σ H Q ⟨r, t, h, Y, S, q⟩ => (rd_bind Y S q).mono fun vs H1 ⟨r1, h1, ds, e1, Y1, S1, rv, q1⟩ => ?_
  by_cases hd : ds.length = ps.length
  · refine ⟨by rw [rv.len]; exact hd, r1, ds, h1, Y1, rv, ?_⟩
    cases e2 : c j ds h1 with
    | ok d h' => rw [e2] at q1; exact q1
    | exn k fs h' => rw [e2] at q1; exact q1
    | stuck => rw [e2] at q1; exact q1
  · rw [hlen ds h1 hd] at q1
    exact q1.elim
end
end Ev

/-! Ev15: [::-1], list(reversed(..)), str of an int, o[i] = e. -/
namespace HT
open PySem PySem.Spec PyProof.Rows
section
variable {prog : Program} {w : World} {A : Around} {E : Value → Shared → Prop} {s : Shared}
theorem adjust_rev (n : Nat) : Builtin.Slice.sliceAdjust none none (-1) (n : Int) = ((n : Int) - 1, -1) := rfl
theorem places_rev (n : Nat) : Builtin.Slice.slicePlaces ((n : Int) - 1) (-1) (-1) = n := by
  unfold Builtin.Slice.slicePlaces
  have h1 : ¬ ((-1 : Int) > 0) := by omega
  simp only [h1, if_false]
  split <;> first | omega | (simp <;> omega)
theorem sliceApplied_rev {sl : Addr} {vl vu vs : Value} {n : Nat} {Q : Int × Int × Nat → Shared → Prop} (hs : s.heap.IsSliceOf sl vl vu vs) (pl : IsPart vl none) (pu : IsPart vu none) (ps : IsPart vs (some (-1)))
    (h : Q ((n : Int) - 1, -1, n) s) : wpAny (model prog w) A (Builtin.Slice.sliceApplied (.ref sl) (pure (n : Int))) Q E s := by
  obtain ⟨os, hos, hcs, hds⟩ := id hs
  unfold Builtin.Slice.sliceApplied Builtin.Slice.sliceFields
  refine wpAny_bind (wpAny_bind (wpAny_field hos hds (x := vl) rfl (wpAny_bind (wpAny_field hos hds (x := vu) rfl (wpAny_bind (wpAny_field hos hds (x := vs) rfl (wpAny_pure ?_)))))))
  refine wpAny_bind (slicePart_ ps ?_)
  show wpAny _ _ (if ((-1 : Int) == 0) = true then _ else _) _ _ s
  rw [if_neg (by decide)]
  refine wpAny_bind (slicePart_ pl (wpAny_bind (slicePart_ pu (wpAny_bind (wpAny_pure ?_)))))
  show wpAny _ _ (match Builtin.Slice.sliceAdjust none none (-1) (n : Int) with | (lo, hi) => pure (lo, (-1 : Int), Builtin.Slice.slicePlaces lo hi (-1))) _ _ s
  rw [adjust_rev n]
  show wpAny _ _ (pure (((n : Int) - 1), (-1 : Int), Builtin.Slice.slicePlaces ((n : Int) - 1) (-1) (-1))) _ _ s
  rw [places_rev]
  exact wpAny_pure h
theorem pick_rev (xs : Array Value) : ((List.range xs.size).filterMap fun (m : Nat) => xs[(((xs.size : Int) - 1) + (m : Int) * (-1)).toNat]?).toArray = xs.toList.reverse.toArray := by
  have e : (List.range xs.size).filterMap (fun (m : Nat) => xs[(((xs.size : Int) - 1) + (m : Int) * (-1)).toNat]?) = ((List.range xs.size).map (fun k => xs.size - 1 - k)).filterMap (xs[·]?) := by
    rw [List.filterMap_map]
    congr 1
    funext m
    show xs[(((xs.size : Int) - 1) + (m : Int) * (-1)).toNat]? = xs[xs.size - 1 - m]?
    have : (((xs.size : Int) - 1) + (m : Int) * (-1)).toNat = xs.size - 1 - m := by omega
    rw [this]
  rw [e, PySem.W.krv_range, List.filterMap_reverse, PySem.W.krv_all]
theorem getItem_tuple_rev {t sl : Addr} {items : Array Value} {vl vu vs : Value} {Q : Value → Shared → Prop} (ht : IsTup s.heap t items) (hs : s.heap.IsSliceOf sl vl vu vs) (pl : IsPart vl none) (pu : IsPart vu none) (ps : IsPart vs (some (-1)))
    (h : Q (.ref s.heap.objs.size) { s with heap := s.heap.push { cls := .type "tuple", data := .seq items.toList.reverse.toArray } }) (hsz : items.size ≤ sizeLine) : wpAny (model prog w) A (getItem (.ref t) (.ref sl)) Q E s := by
  have htake : sizeOk (.seq items.toList.reverse.toArray) := by
    show items.toList.reverse.toArray.size ≤ sizeLine
    rw [List.size_toArray, List.length_reverse, Array.length_toList]
    omega
  obtain ⟨os, hos, hcs, hds⟩ := id hs
  have hTs : s.TypeIs (.ref sl) "slice" := ⟨os, hos, hcs⟩
  unfold getItem
  try with_reducible refine wpAny_holding ?_
  first | refine wpAny_bind (wpAny_pure ?_) | skip
  refine wpAny_bind (wpAny_sequenceKey ht.typeIs (by decide) ?_)
  refine wpAny_bind (wpAny_callSpecial?_slot (name := Str.ofString "__getitem__") ht.typeIs PyProof.Rows.slot_tuple_getitem
    (wpAny_call_entry PyProof.Rows.slot_tuple_getitem ht.typeIs entry_tuple_getitem ?_ (args_tuple_getitem _ _)))
  show wpAny _ _ (Builtin.Tuple.tupleItemsOf (.ref t) >>= _) _ _ s
  refine wpAny_bind (tupleItemsOf_ ht ?_)
  refine wpAny_bind (wpAny_typeOf hTs ?_)
  rw [if_pos (by decide)]
  refine wpAny_bind (sliceApplied_rev hs pl pu ps ?_)
  have hno : ¬ ((((items.size : Int) - 1) == 0 && (-1 : Int) == 1 && items.size == items.size) = true) := by
    rw [show ((-1 : Int) == 1) = false from by decide, Bool.and_false, Bool.false_and]
    exact Bool.false_ne_true
  show wpAny _ _ (if (((items.size : Int) - 1) == 0 && (-1 : Int) == 1 && items.size == items.size) = true then _ else _) _ _ s
  rw [if_neg hno, pick_rev]
  first
    | exact wpAny_bind (m := Builtin.Tuple.tupleExact _) (wpAny_newObj_type (wpAny_pure ⟨_, rfl, wpAny_pure h⟩) htake)
    | exact wpAny_bind (m := Builtin.Tuple.tupleExact _) (wpAny_newObj_type (wpAny_bind (wpAny_pure (wpAny_pure ⟨_, rfl, wpAny_pure h⟩))) htake)
    | exact wpAny_bind (wpAny_bind (m := Builtin.Tuple.tupleExact _) (wpAny_newObj_type (wpAny_pure (wpAny_pure ⟨_, rfl, wpAny_pure h⟩)) htake))
    | exact wpAny_bind (wpAny_bind (m := Builtin.Tuple.tupleExact _) (wpAny_newObj_type (wpAny_pure ⟨_, rfl, wpAny_pure h⟩) htake))
end
end HT
namespace Ev
open PySem PySem.Spec PyProof.Rows L2 PySem.Calls
/-! ### [::-1] -/
def dRevd (m : Bool) (x : D) (h : Hd) : Res D :=
  match x.see h with
  | .lst xs => fresh m xs.reverse h
  | .scr xs => fresh m xs.reverse h
  | .tup xs => .ok (.tup xs.reverse) h
  | _ => .stuck
section
variable {X : Cx} {CL : List XC} {W : WX} {c : Calls}
/-- any sequence backwards: the reading -/
def tRevA (K : PySem.W.Frag) (te : TE) : TE := fun σ H Q => te σ H fun x H1 => (∃ a xs, x = .ref a ∧ SqL K H1 a xs ∧ ∀ p, H1 p = none → Q (.ref p) (upd H1 p (.lst xs.reverse))) ∨ ∃ a xs, x = .ref a ∧ SqT K H1 a xs ∧ ∀ p o, H1 p = none → PlainT o → Q (.ref p) (upd H1 p (.frz o (.tup xs.reverse)))
theorem pe_revA {e : Expr} {te : TE} {k : Nat} {p1 p2 p3 pos : Pos} (he : PE X e te) : PE X (.Subscript e (.Slice none none (some (.UnaryOp .USub (.Constant (.int 1) k p1) p2)) p3) pos) (tRevA X.K te) := by
  refine ⟨fun pins s σ H Q I h => ?_⟩
  refine Subscript_ (thn (he.run pins s σ H _ I h) fun v s1 ⟨x, H1, I1, r1, q1⟩ => ?_)
  have hst : PO X (some (.UnaryOp .USub (.Constant (.int 1) k p1) p2)) (tPart (tUn (rU fun i => .int (-i)) (tC (.int 1)))) := po_some (pe_un un_neg pe_int)
  refine wpAny_Slice (thn (po_none.run pins s1 σ H1 (fun o H2 => o = none ∧ H2 = H1) I1 ⟨rfl, rfl⟩) fun vl s2 ⟨l, H2, I2, pl, el, e2⟩ => ?_)
  subst el e2
  refine thn (po_none.run pins s2 σ H2 (fun o H3 => o = none ∧ H3 = H2) I2 ⟨rfl, rfl⟩) fun vu s3 ⟨u, H3, I3, pu, eu, e3⟩ => ?_
  subst eu e3
  refine thn (hst.run pins s3 σ H3 (fun o H4 => o = some (-1) ∧ H4 = H3) I3 ⟨1, rfl, -1, rfl, rfl, rfl⟩) fun vs s4 ⟨o, H4, I4, ps, eo, e4⟩ => ?_
  subst eo e4
  have I5 : Inv X pins σ H4 { s4 with heap := s4.heap.push { cls := .type "slice", data := .fields #[vl, vu, vs] } } := I4.kept (t' := s4.toks) fun b ob q => Heap.get?_push_of_some _ q
  rcases q1 with ⟨a, xs, rfl, hx, q⟩ | ⟨a, xs, rfl, hx, q⟩
  · cases r1
    obtain ⟨its, r, ht, hz⟩ := I5.list hx
    have hlen := r.length
    show wpAny (model X.prog X.w) X.A (subscriptTail e (.Slice none none (some (.UnaryOp .USub (.Constant (.int 1) k p1) p2)) p3) (.ref a) (.ref s4.heap.objs.size)) (EP X pins σ Q) X.xe { s4 with heap := s4.heap.push { cls := .type "slice", data := .fields #[vl, vu, vs] } }
    refine tail_any (ops := [.ref a, .ref s4.heap.objs.size]) ht.isList.typeIs (PySem.slot_list_getitem.lookup) ?_ (by with_unfolding_all rfl)
    refine wpAny_getItem_list_slice ht.isList (Heap.IsSliceOf.new _ vl vu vs) pl pu ps (by decide) ?_ (by rw [List.size_toArray]; omega)
    rw [PySem.W.krv_pick]
    refine ⟨.ref _, _, I5.laid (t' := s4.toks) (o := .lst xs.reverse) (fun b ob q => Heap.get?_push_of_some _ q) (Nat.le_refl _) ?_, rfl, q _ (I5.hok.fresh (Nat.le_refl _))⟩
    exact ⟨by rw [List.length_reverse]; exact hz, _, 0, r.reverse, Heap.get?_push_size _ rfl⟩
  · cases r1
    obtain ⟨its, r, ht, hz⟩ := I5.tuple hx
    have hlen := r.length
    show wpAny (model X.prog X.w) X.A (subscriptTail e (.Slice none none (some (.UnaryOp .USub (.Constant (.int 1) k p1) p2)) p3) (.ref a) (.ref s4.heap.objs.size)) (EP X pins σ Q) X.xe { s4 with heap := s4.heap.push { cls := .type "slice", data := .fields #[vl, vu, vs] } }
    refine tail_any (ops := [.ref a, .ref s4.heap.objs.size]) ht.typeIs (PyProof.Rows.slot_tuple_getitem.lookup) ?_ (by with_unfolding_all rfl)
    refine HT.getItem_tuple_rev ht (Heap.IsSliceOf.new _ vl vu vs) pl pu ps ?_ (by rw [List.size_toArray]; omega)
    exact ⟨.ref _, _, tup_laid (t' := s4.toks) I5 r.reverse (by rw [List.length_reverse]; exact hz), rfl, q _ _ (I5.hok.fresh (Nat.le_refl _)) ⟨_, _, rfl⟩⟩
theorem de_revd {m : Bool} {e : Expr} {me : M} {k : Nat} {p1 p2 p3 pos : Pos} (he : DE X CL W c e me) : DE X CL W c (.Subscript e (.Slice none none (some (.UnaryOp .USub (.Constant (.int 1) k p1) p2)) p3) pos) (mUn (dRevd m) me) :=
  pimp (pe_revA he) fun σ H Q ⟨r, t, h, Y, S, q⟩ => (rd_bind Y S q).mono fun v H1 ⟨r1, h1, d, e1, Y1, S1, rv, q1⟩ => by
    unfold dRevd at q1
    split at q1
    · rename_i xs e2
      obtain ⟨a, vs, rfl, f, k⟩ := see_lst Y1 rv e2
      exact .inl ⟨a, vs, rfl, .inl (.inl f), fun p np => new_shut Y1 k.rev (fresh_ok q1) np⟩
    · rename_i xs e2
      obtain ⟨a, vs, rfl, f, k⟩ := see_scr rv e2
      exact .inl ⟨a, vs, rfl, f, fun p np => new_shut Y1 k.rev (fresh_ok q1) np⟩
    · rename_i xs e2
      obtain ⟨a, vs, rfl, f, k⟩ := see_tup rv e2
      refine .inr ⟨a, vs, rfl, f.seq, fun p o np pl => ?_⟩
      have x1 : Ext r1 H1 r1 (upd H1 p (.frz o (.tup vs.reverse))) := Ext.laid np
      exact q1 _ r1 _ x1 (Y1.laid np) (.tup (.inl ⟨o, upd_same, pl, Y1.fresh np⟩) (k.rev.mono x1))
    · exact q1.elim
end
end Ev

/-! Ev16: list(reversed(..)), str(..), o[i] = e. -/
namespace RT
open PySem PySem.Spec PyProof.Rows
section
variable {prog : Program} {w : World} {A : Around} {E : Value → Shared → Prop} {s : Shared}
theorem extend_rev {R : Result → Shared → Prop} {it l : Addr} {items : Array Value} (hh : A.handled = none) (hit : s.heap.IsRevIter it l ((items.size : Int) - 1)) (hl : s.heap.IsList l items) (hne : l ≠ it) (hn : items.size ≤ sizeLine) (S : Addr) (hSl : S ≠ l) (hSi : S ≠ it) (res : Value) (c₀ : Nat) (hS : s.heap.get? S = some { cls := .type "list", data := .seq #[] c₀ })
    (hR : ∀ h' tk acc' c', (∀ b o, b ≠ S → b ≠ it → s.heap.get? b = some o → h'.get? b = some o) → h'.get? S = some { cls := .type "list", dict := none, data := .seq acc' c', slots := #[] } →
      ItemsOf (fun i v => items[items.size - 1 - i]? = some v) acc' items.size → R (.ok (.ret res)) { s with heap := h', toks := tk }) :
    wpAny (model prog w) A.in1 (Builtin.List.listExtendWith (.ref S) (.ref it) res)
      (fun fin s' => match fin with | .done f => R (.ok f) s' | .again c' => c'.quiet = true ∧ codeAny (model prog w) A c' R s') (fun e s' => R (.error e) s') s := by
  have W := (Walks.listRev (prog := prog) (w := w) (A := A.in1) hh it l hne items).toS
  have hSf : S ∉ [it, l] := by simp only [List.mem_cons, List.not_mem_nil, or_false, not_or]; exact ⟨hSi, hSl⟩
  have hT : s.TypeIs (.ref it) "list_reverseiterator" := Heap.IsRevIter.typeIs hit
  have h1 : Builtin.List.listSameRef (.ref S) (.ref it) = false := by simp [Builtin.List.listSameRef, hSi]
  unfold Builtin.List.listExtendWith
  refine wpAny_bind (wpAny_typeOf hT ?_)
  rw [if_neg (by rw [h1]; decide)]
  refine wpAny_bind (wpAny_pyIter_revIter hit ?_)
  refine wpAny_bind (wpAny_holding ?_)
  unfold Builtin.List.listLengthHint
  refine wpAny_bind (wpAny_specialOf hT nolen_lri ?_)
  show wpAny _ A.in1 (specialOf (Value.ref it) (Str.ofString "__length_hint__") >>= _) _ _ _
  refine wpAny_bind (wpAny_specialOf hT hint_lri ?_)
  generalize hid : ("list_reverseiterator.__length_hint__" : String) = id0
  wp_delta
  rw [show splitId id0 = some ("list_reverseiterator", "__length_hint__") from by subst hid; decide +kernel]
  subst hid
  refine wpAny_bind (wpAny_isInstance (b := true) hT (by rw [isSubtype_type]; kernel_rfl) ?_)
  refine wpAny_pure ?_
  rw [if_neg (by decide)]
  have e0 : ((items.size : Nat) : Int) - 1 - ((0 : Nat) : Int) = (items.size : Int) - 1 := by omega
  refine wpAny_pure ⟨plainId_quiet F.plain_extend_loop _, codeAny_extend_loopS W hn S hSf res items.size 0 _ _ _ rfl (Nat.zero_le _) ⟨Nat.zero_le _, by rw [e0]; exact hit, hl⟩ hS (ItemsOf.nil _) fun s' acc' c' hm hS' hacc => ?_⟩
  rw [Moved.eq_with hm]
  refine hR s'.heap s'.toks acc' c' (fun b o hb hb2 e => hm.heap b o (fun hmem => ?_) e) hS' hacc
  rcases List.mem_cons.mp hmem with e' | hmem
  · exact hb e'
  · exact hb2 (List.mem_singleton.mp hmem)
theorem list_init_rev {R : Result → Shared → Prop} {it l : Addr} {items : Array Value} (hh : A.handled = none) (hit : s.heap.IsRevIter it l ((items.size : Int) - 1)) (hl : s.heap.IsList l items) (hne : l ≠ it) (hn : items.size ≤ sizeLine) (S : Addr) (hSl : S ≠ l) (hSi : S ≠ it) (hS : s.heap.get? S = some { cls := .type "list", data := .seq #[] })
    (hR : ∀ h' tk acc' c', (∀ b o, b ≠ S → b ≠ it → s.heap.get? b = some o → h'.get? b = some o) → h'.get? S = some { cls := .type "list", dict := none, data := .seq acc' c', slots := #[] } →
      ItemsOf (fun i v => items[items.size - 1 - i]? = some v) acc' items.size → R (.ok (.ret .none)) { s with heap := h', toks := tk }) :
    wpAny (model prog w) A.in1 (Builtin.«list.__init__» ⟨[.ref S, .ref it], []⟩)
      (fun fin s' => match fin with | .done f => R (.ok f) s' | .again c' => c'.quiet = true ∧ codeAny (model prog w) A c' R s') (fun e s' => R (.error e) s') s := by
  show wpAny _ _ (do let old ← Builtin.List.listItems (.ref S); Builtin.List.listUpdate (.ref S) (fun _ => #[]); letGo old.toList.reverse; Builtin.List.listExtendWith (.ref S) (.ref it) .none) _ _ s
  refine wpAny_bind ?_
  unfold Builtin.List.listItems
  refine wpAny_bind (wpAny_seqItems hS rfl (wpAny_pure ?_))
  show wpAny _ _ (updateSeq S (fun _ => #[]) >>= fun _ => letGo (#[] : Array Value).toList.reverse >>= fun _ => Builtin.List.listExtendWith (.ref S) (.ref it) .none) _ _ s
  refine wpAny_bind (wpAny_updateSeq hS rfl ?_)
  have hS₂ := Heap.get?_update_self (Obj.mapSeq (fun _ => (#[] : Array Value))) hS rfl
  have oth : ∀ b o, b ≠ S → s.heap.get? b = some o → (s.heap.update S (Obj.mapSeq (fun _ => (#[] : Array Value)))).get? b = some o :=
    fun b o hb e => (Heap.get?_update_other _ _ (Ne.symm hb)).trans e
  refine wpAny_bind (wpAny_letGo ?_)
  refine extend_rev hh (hit.at fun o e => oth it o (Ne.symm hSi) e) (by obtain ⟨ol, h1, h2⟩ := hl; exact ⟨ol, oth l _ (Ne.symm hSl) h1, h2⟩) hne hn S hSl hSi .none _ hS₂ fun h' tk acc' c' hk hS' hacc => ?_
  exact hR h' tk acc' c' (fun b o hb hb2 e => hk b o hb hb2 (oth b o hb e)) hS' hacc
theorem call_list_rev {it l : Addr} {items : Array Value} {Q : Value → Shared → Prop} (hh : A.handled = none) (hit : s.heap.IsRevIter it l ((items.size : Int) - 1)) (hl : s.heap.IsList l items) (hne : l ≠ it) (hn : items.size ≤ sizeLine)
    (hQ : ∀ h' tk acc' c', (∀ b o, b ≠ it → s.heap.get? b = some o → h'.get? b = some o) →
      h'.get? s.heap.objs.size = some { cls := .type "list", dict := none, data := .seq acc' c', slots := #[] } → ItemsOf (fun i v => items[items.size - 1 - i]? = some v) acc' items.size → Q (.ref s.heap.objs.size) { s with heap := h', toks := tk }) :
    wpAny (model prog w) A (call (.type "list") [.ref it]) Q E s := by
  refine callType_codes (Q₁ := fun obj s₁ => obj = .ref s.heap.objs.size ∧ s₁ = { s with heap := s.heap.push { cls := .type "list", data := .seq #[] } }) F.called_list (F.typeCall_list_1 _) F.entry_list_init
    (code_list_new _ ⟨rfl, rfl⟩) fun obj s₁ h₁ => ?_
  obtain ⟨rfl, rfl⟩ := h₁
  obtain ⟨oi, hoi, _⟩ := id hit
  obtain ⟨ol, hol, _⟩ := id hl
  have hSi : s.heap.objs.size ≠ it := Nat.ne_of_gt (Heap.lt_size hoi)
  have hSl : s.heap.objs.size ≠ l := Nat.ne_of_gt (Heap.lt_size hol)
  have hS : (s.heap.push { cls := .type "list", data := .seq #[] }).get? s.heap.objs.size = some { cls := .type "list", data := .seq #[] } := Heap.get?_push_size _ rfl
  refine ⟨⟨_, hS, rfl⟩, F.args_list_init_2 _ _, list_init_rev (A := A.in1) hh (hit.at fun o e => Heap.get?_push_of_some _ e) (hl.push _) hne hn _ hSl hSi hS fun h' tk acc' c' hk hS' hacc => ?_⟩
  exact ⟨rfl, hQ h' tk acc' c' (fun b o hb e => hk b o (Nat.ne_of_lt (Heap.lt_size e)) hb (Heap.get?_push_of_some _ e)) hS' hacc⟩
end
end RT
namespace Ev
open PySem PySem.Spec PyProof.Rows L2 PySem.Calls
/-! ### list(reversed(..)) of a list -/
def dLRev (m : Bool) (x : D) (h : Hd) : Res D :=
  match listOf h x with
  | some xs => fresh m xs.reverse h
  | none => .stuck
section
variable {X : Cx} {CL : List XC} {W : WX} {c : Calls}
theorem pe_lstRev {e : Expr} {te : TE} {p p2 pos pos2 : Pos} (hc : X.calm = true) (hg : Gl X "list") (hm : X.mg "list" = none) (hg2 : Gl X "reversed") (hm2 : X.mg "reversed" = none) (he : PE X e te)
    (hs : starEach [e] X.env = (false, eval e X.env) :: starEach [] X.env)
    (hs2 : starEach [.Call (.Name "reversed" p2) [e] [] pos2] X.env = (false, eval (.Call (.Name "reversed" p2) [e] [] pos2) X.env) :: starEach [] X.env) :
    PE X (.Call (.Name "list" p) [.Call (.Name "reversed" p2) [e] [] pos2] [] pos) (tRevL X.K te) := by
  refine ⟨fun pins s σ H Q I h => ?_⟩
  refine Call_ (ld_blt I hg hm PyProof.Rows.boot_list (PyProof.Rows.callWith_type1 (args_cons (Call_ (ld_blt I hg2 hm2 PyProof.Rows.boot_reversed (PyProof.Rows.callWith_type1 (args_cons (thn (he.run pins s σ H _ I h) fun u s1 ⟨v, H1, I1, r1, q1⟩ => args_nil ?_) hs) hs rfl))) hs2) hs2 rfl))
  obtain ⟨a, xs, ev, hq, q⟩ := q1
  subst ev
  obtain rfl : u = Value.ref a := r1
  obtain ⟨its, rv, p', hz⟩ := I1.list hq
  refine call_reversed_list p'.isList (args_nil ?_)
  have k0 : ∀ b o, s1.heap.get? b = some o → (s1.heap.push (revObj a ((its.toArray.size : Int) - 1))).get? b = some o := fun b o e => Heap.get?_push_of_some _ e
  have I2 : Inv X pins σ H1 { s1 with heap := s1.heap.push (revObj a ((its.toArray.size : Int) - 1)) } := I1.kept (t' := s1.toks) k0
  obtain ⟨f0, f1, f2, f3, f4, f5⟩ := I1.fpOk (H' := H1) (b := s1.heap.objs.size) (Nat.le_refl _) (I1.hok.fresh (Nat.le_refl _))
  have hl := p'.isList
  obtain ⟨ol, hol, _⟩ := id hl
  have hne : a ≠ s1.heap.objs.size := Nat.ne_of_lt (Heap.lt_size hol)
  have hn : its.toArray.size ≤ sizeLine := by rw [List.size_toArray, ← rv.length]; exact hz
  refine RT.call_list_rev (s := { s1 with heap := s1.heap.push (revObj a ((its.toArray.size : Int) - 1)) }) (I1.ok.hd hc) ⟨_, Heap.get?_push_size _ rfl, rfl, rfl⟩ (hl.push _) hne hn fun h' tk acc hk hK hS hi => ?_
  have hsz : (s1.heap.push (revObj a ((its.toArray.size : Int) - 1))).objs.size = s1.heap.objs.size + 1 := Heap.size_push ..
  have hp : H1 (s1.heap.objs.size + 1) = none := I1.hok.fresh (Nat.le_succ _)
  have hacc : acc.toList.toArray = acc := Array.toArray_toList
  have I3 : Inv X pins σ (upd H1 (s1.heap.objs.size + 1) (.lst xs.reverse)) { s1 with heap := (s1.heap.push (revObj a ((its.toArray.size : Int) - 1))).push { cls := .type "list", dict := none, data := .seq acc hk, slots := #[] } } :=
    I2.laid (t' := s1.toks) (fun b o e => Heap.get?_push_of_some _ e) (Nat.le_of_eq hsz) (show ObjOk X.prog X.w _ _ _ (.lst xs.reverse) from ⟨by rw [List.length_reverse]; exact hz, acc.toList, hk, RT.vals_rev rv hi, by
      rw [hacc]
      exact Heap.get?_push_at hsz.symm rfl⟩)
  obtain ⟨g0, g1, g2, g3, g4, g5⟩ := I1.fpOk (H' := upd H1 (s1.heap.objs.size + 1) (.lst xs.reverse)) (b := s1.heap.objs.size) (Nat.le_refl _) (by rw [upd_ne (Nat.ne_of_lt (Nat.lt_succ_self _))]; exact I1.hok.fresh (Nat.le_refl _))
  have I4 : Inv X pins σ (upd H1 (s1.heap.objs.size + 1) (.lst xs.reverse)) { s1 with heap := h', toks := tk } := I3.turned (t' := tk) (fun b o hb e => ?_) g0 g1 g3 g4 g5
  · refine ⟨.ref _, _, I4, ?_, q _ hp⟩
    show Value.ref (s1.heap.push (revObj a ((its.toArray.size : Int) - 1))).objs.size = _
    rw [hsz]
  · rcases Heap.get?_push_cases e with ⟨rfl, rfl⟩ | e
    · exact hS
    · exact hK b o hb e
theorem de_listRev {m : Bool} {e : Expr} {me : M} {p p2 pos pos2 : Pos} (hc : X.calm = true) (hg : Gl X "list") (hm : X.mg "list" = none) (hg2 : Gl X "reversed") (hm2 : X.mg "reversed" = none) (he : DE X CL W c e me) (hs : starEach [e] X.env = (false, eval e X.env) :: starEach [] X.env)
    (hs2 : starEach [.Call (.Name "reversed" p2) [e] [] pos2] X.env = (false, eval (.Call (.Name "reversed" p2) [e] [] pos2) X.env) :: starEach [] X.env) : DE X CL W c (.Call (.Name "list" p) [.Call (.Name "reversed" p2) [e] [] pos2] [] pos) (mUn (dLRev m) me) :=
  pimp (pe_lstRev hc hg hm hg2 hm2 he hs hs2) fun σ H Q ⟨r, t, h, Y, S, q⟩ => (rd_bind Y S q).mono fun v H1 ⟨r1, h1, d, e1, Y1, S1, rv, q1⟩ => by
    unfold dLRev at q1
    split at q1
    · rename_i xs e2
      obtain ⟨a, vs, rfl, k, f⟩ := list_rep Y1 rv e2
      exact ⟨a, vs, rfl, f, fun p np => new_shut Y1 k.rev (fresh_ok q1) np⟩
    · exact q1.elim
end
end Ev

/-! Ev17: the rules as the printer names them. -/
namespace Ev
open PySem PySem.Spec PyProof.Rows L2 PySem.Calls

theorem fresh_calm {m : Bool} {xs : List D} {h : Hd} {c : Nat} {fs : List D} {h' : Hd} : fresh m xs h ≠ .exn c fs h' := by
  unfold fresh
  split
  · cases m <;> (intro z; cases z)
  · intro z; cases z
theorem freshT_calm {xs : List D} {h : Hd} {c : Nat} {fs : List D} {h' : Hd} : freshT xs h ≠ .exn c fs h' := by
  unfold freshT
  split <;> (intro z; cases z)
theorem freshS_calm {xs : List Nat} {h : Hd} {c : Nat} {fs : List D} {h' : Hd} : freshS xs h ≠ .exn c fs h' := by
  unfold freshS
  split <;> (intro z; cases z)
theorem calm_add {m : Bool} : Calm (dAdd m) := by
  intro x y h c fs h'
  unfold dAdd
  split
  · intro z; cases z
  · exact freshS_calm
  · exact freshT_calm
  · split
    · exact fresh_calm
    · intro z; cases z
theorem calm_sub : Calm dSub := by
  intro x y h c fs h'
  unfold dSub
  split <;> (intro z; cases z)
theorem calm_mul {m : Bool} : Calm (dMul m) := by
  intro x y h c fs h'
  unfold dMul
  split
  · split <;> (intro z; cases z)
  · split
    · split
      · exact fresh_calm
      · intro z; cases z
    · intro z; cases z
  · intro z; cases z
theorem calm_div : Calm dDiv := by
  intro x y h c fs h'
  unfold dDiv
  repeat (first | split | (intro z; cases z))
theorem calm_mod : Calm dMod := by
  intro x y h c fs h'
  unfold dMod
  repeat (first | split | (intro z; cases z))
theorem calm_pow : Calm dPow := by
  intro x y h c fs h'
  unfold dPow
  repeat (first | split | (intro z; cases z))
theorem calm_eq {n : Bool} : Calm (dEq n) := by
  intro x y h c fs h'
  unfold dEq
  split <;> (intro z; cases z)
theorem calm_cmp {f : Int → Int → Bool} {g : List Nat → List Nat → Bool} : Calm (dCmp f g) := by
  intro x y h c fs h'
  unfold dCmp
  split <;> (intro z; cases z)
theorem calm_in {n : Bool} : Calm (dIn n) := by
  intro x y h c fs h'
  unfold dIn dInS
  repeat (first | split | (intro z; cases z))
section
variable {X : Cx} {CL : List XC} {W : WX} {c : Calls} {a b e : Expr} {ma mb me : M} {pos : Pos}
theorem g_var (i : Nat) {x : Str} {pos : Pos} (hN : X.N[i]? = some x := by rfl) (hv : Vis X.env.scope x := by first | exact Or.inl rfl | exact Or.inr (Or.inl rfl) | exact Or.inr (Or.inr rfl)) (hd : (x == ("__debug__" : Str)) = false := by decide)
    (hcd : (x == ("__classdict__" : Str)) = false := by decide) : DE X CL W c (.Name x pos) (mVar i) := de_var hN hv hd hcd
/-- a global constant -/
def GlobIs (K : PySem.W.Frag) (mg : Str → Option Value) (x : Str) (d : D) : Prop := ∃ v u, mg x = some u ∧ RelV v u ∧ Rep K (fun _ => none) Rho.nil v d
theorem g_glob {x : Str} {d : D} (h : GlobIs X.K X.mg x d) (hg : Gl X x := by rfl) (hd : (x == ("__debug__" : Str)) = false := by decide) : DE X CL W c (.Name x pos) (mC d) := by
  obtain ⟨v, u, h1, h2, h3⟩ := h
  exact de_glob hg h1 h2 h3 hd
theorem sok_of {x : Str} (h : (PySem.PyData.strOk x && decide (x.cps.size ≤ 1000000)) = true) : SOk x := by
  rw [Bool.and_eq_true, decide_eq_true_eq] at h
  exact h
theorem g_str {x : Str} {s : List Nat} {j pos} (hs : x.cps.toList = s := by rfl) (hx : (PySem.PyData.strOk x && decide (x.cps.size ≤ 1000000)) = true := by kernel_rfl) : DE X CL W c (.Constant (.str x) j pos) (mC (.str s)) := by
  subst hs
  exact de_str (sok_of hx)
theorem g_nil : DA X CL W c [] aNil := da_nil
theorem g_cons {e : Expr} {es : List Expr} {m : M} {l : ML} (h1 : DE X CL W c e m) (h2 : DA X CL W c es l) (hs : starEach (e :: es) X.env = (false, eval e X.env) :: starEach es X.env := by rfl) : DA X CL W c (e :: es) (aCons m l) := da_cons h1 h2 hs
theorem g_add {m : Bool} (ha : DE X CL W c a ma) (hb : DE X CL W c b mb) : DE X CL W c (.BinOp a .Add b pos) (mOp (dAdd m) ma mb) := de_op calm_add op_addE ha hb
theorem g_sub (ha : DE X CL W c a ma) (hb : DE X CL W c b mb) : DE X CL W c (.BinOp a .Sub b pos) (mOp dSub ma mb) := de_op calm_sub op_subE ha hb
theorem g_mul {m : Bool} (ha : DE X CL W c a ma) (hb : DE X CL W c b mb) : DE X CL W c (.BinOp a .Mult b pos) (mOp (dMul m) ma mb) := de_op calm_mul op_mulE ha hb
theorem g_div (ha : DE X CL W c a ma) (hb : DE X CL W c b mb) : DE X CL W c (.BinOp a .FloorDiv b pos) (mOp dDiv ma mb) := de_op calm_div op_divE ha hb
theorem g_mod (ha : DE X CL W c a ma) (hb : DE X CL W c b mb) : DE X CL W c (.BinOp a .Mod b pos) (mOp dMod ma mb) := de_op calm_mod op_modE ha hb
theorem g_pow (ha : DE X CL W c a ma) (hb : DE X CL W c b mb) : DE X CL W c (.BinOp a .Pow b pos) (mOp dPow ma mb) := de_op calm_pow op_powE ha hb
theorem g_eq (hu : X.A.units + 560 < cLine) (ha : DE X CL W c a ma) (hb : DE X CL W c b mb) (hm : behindInMarks .Eq b = false := by rfl) : DE X CL W c (.Compare a [.Eq] [b] pos) (mOp (dEq false) ma mb) := de_cmp calm_eq (op_eqE hu) ha hb hm
theorem g_ne (hu : X.A.units + 560 < cLine) (ha : DE X CL W c a ma) (hb : DE X CL W c b mb) (hm : behindInMarks .NotEq b = false := by rfl) : DE X CL W c (.Compare a [.NotEq] [b] pos) (mOp (dEq true) ma mb) := de_cmp calm_eq (op_neE hu) ha hb hm
theorem g_lt (ha : DE X CL W c a ma) (hb : DE X CL W c b mb) (hm : behindInMarks .Lt b = false := by rfl) : DE X CL W c (.Compare a [.Lt] [b] pos) (mOp dLt ma mb) := de_cmp calm_cmp op_ltE ha hb hm
theorem g_le (ha : DE X CL W c a ma) (hb : DE X CL W c b mb) (hm : behindInMarks .LtE b = false := by rfl) : DE X CL W c (.Compare a [.LtE] [b] pos) (mOp dLe ma mb) := de_cmp calm_cmp op_leE ha hb hm
theorem g_gt (ha : DE X CL W c a ma) (hb : DE X CL W c b mb) (hm : behindInMarks .Gt b = false := by rfl) : DE X CL W c (.Compare a [.Gt] [b] pos) (mOp dGt ma mb) := de_cmp calm_cmp op_gtE ha hb hm
theorem g_ge (ha : DE X CL W c a ma) (hb : DE X CL W c b mb) (hm : behindInMarks .GtE b = false := by rfl) : DE X CL W c (.Compare a [.GtE] [b] pos) (mOp dGe ma mb) := de_cmp calm_cmp op_geE ha hb hm
theorem g_in (hu : X.A.units + 560 < cLine) (ha : DE X CL W c a ma) (hb : DE X CL W c b mb) (hm : behindInMarks .In b = false := by rfl) : DE X CL W c (.Compare a [.In] [b] pos) (mOp (dIn false) ma mb) := de_cmp (op := .In) calm_in (op_inE (n := false) hu) ha hb hm
theorem g_nin (hu : X.A.units + 560 < cLine) (ha : DE X CL W c a ma) (hb : DE X CL W c b mb) (hm : behindInMarks .NotIn b = false := by rfl) : DE X CL W c (.Compare a [.NotIn] [b] pos) (mOp (dIn true) ma mb) := de_cmp (op := .NotIn) calm_in (op_inE (n := true) hu) ha hb hm
theorem t_eq (hu : X.A.units + 560 < cLine) (ha : DE X CL W c a ma) (hb : DE X CL W c b mb) (hm : behindInMarks .Eq b = false := by rfl) : DT X CL W c (.Compare a [.Eq] [b] pos) (tCmp (mOp (dEq false) ma mb)) := dt_op calm_eq (op_eqE hu) ha hb hm
theorem t_ne (hu : X.A.units + 560 < cLine) (ha : DE X CL W c a ma) (hb : DE X CL W c b mb) (hm : behindInMarks .NotEq b = false := by rfl) : DT X CL W c (.Compare a [.NotEq] [b] pos) (tCmp (mOp (dEq true) ma mb)) := dt_op calm_eq (op_neE hu) ha hb hm
theorem t_lt (ha : DE X CL W c a ma) (hb : DE X CL W c b mb) (hm : behindInMarks .Lt b = false := by rfl) : DT X CL W c (.Compare a [.Lt] [b] pos) (tCmp (mOp dLt ma mb)) := dt_op calm_cmp op_ltE ha hb hm
theorem t_le (ha : DE X CL W c a ma) (hb : DE X CL W c b mb) (hm : behindInMarks .LtE b = false := by rfl) : DT X CL W c (.Compare a [.LtE] [b] pos) (tCmp (mOp dLe ma mb)) := dt_op calm_cmp op_leE ha hb hm
theorem t_gt (ha : DE X CL W c a ma) (hb : DE X CL W c b mb) (hm : behindInMarks .Gt b = false := by rfl) : DT X CL W c (.Compare a [.Gt] [b] pos) (tCmp (mOp dGt ma mb)) := dt_op calm_cmp op_gtE ha hb hm
theorem t_ge (ha : DE X CL W c a ma) (hb : DE X CL W c b mb) (hm : behindInMarks .GtE b = false := by rfl) : DT X CL W c (.Compare a [.GtE] [b] pos) (tCmp (mOp dGe ma mb)) := dt_op calm_cmp op_geE ha hb hm
theorem t_in (hu : X.A.units + 560 < cLine) (ha : DE X CL W c a ma) (hb : DE X CL W c b mb) (hm : behindInMarks .In b = false := by rfl) : DT X CL W c (.Compare a [.In] [b] pos) (tCmp (mOp (dIn false) ma mb)) := dt_op (op := .In) calm_in (op_inE (n := false) hu) ha hb hm
theorem t_nin (hu : X.A.units + 560 < cLine) (ha : DE X CL W c a ma) (hb : DE X CL W c b mb) (hm : behindInMarks .NotIn b = false := by rfl) : DT X CL W c (.Compare a [.NotIn] [b] pos) (tCmp (mOp (dIn true) ma mb)) := dt_op (op := .NotIn) calm_in (op_inE (n := true) hu) ha hb hm
/-- chains of two -/
theorem g_lele (ha : DE X CL W c a ma) (hb : DE X CL W c b mb) (he : DE X CL W c e me) (hm : lastMarks [.LtE, .LtE] [b, e] = false := by rfl) : DE X CL W c (.Compare a [.LtE, .LtE] [b, e] pos) (mChain dLe dLe ma mb me) := de_chain calm_cmp calm_cmp op_leE op_leE ha hb he hm
theorem g_lelt (ha : DE X CL W c a ma) (hb : DE X CL W c b mb) (he : DE X CL W c e me) (hm : lastMarks [.LtE, .Lt] [b, e] = false := by rfl) : DE X CL W c (.Compare a [.LtE, .Lt] [b, e] pos) (mChain dLe dLt ma mb me) := de_chain calm_cmp calm_cmp op_leE op_ltE ha hb he hm
theorem t_lele (ha : DE X CL W c a ma) (hb : DE X CL W c b mb) (he : DE X CL W c e me) (hm : lastMarks [.LtE, .LtE] [b, e] = false := by rfl) : DT X CL W c (.Compare a [.LtE, .LtE] [b, e] pos) (tCmp (mChain dLe dLe ma mb me)) := dt_chain calm_cmp calm_cmp op_leE op_leE ha hb he hm
theorem t_lelt (ha : DE X CL W c a ma) (hb : DE X CL W c b mb) (he : DE X CL W c e me) (hm : lastMarks [.LtE, .Lt] [b, e] = false := by rfl) : DT X CL W c (.Compare a [.LtE, .Lt] [b, e] pos) (tCmp (mChain dLe dLt ma mb me)) := dt_chain calm_cmp calm_cmp op_leE op_ltE ha hb he hm
theorem t_val {m : M} (h : DE X CL W c e m) (he : ∀ whole, isTrue e X.env whole = (do let v ← whole; standAt e.pos; holding [v] (truthy v)) := by intro _; rfl) : DT X CL W c e (tVal m) := dt_val h he
theorem t_w {m : MB} (h : DW X CL W c e m) : DT X CL W c e m := h.pt
theorem g_ix (hu : X.A.units + 560 < cLine) (ha : DE X CL W c a ma) (hb : DE X CL W c b mb) (hs : PlainIx b := by intro _ _; with_unfolding_all rfl) : DE X CL W c (.Subscript a b pos) (mOp dIx ma mb) := de_ix hu ha hb hs
/-! built-in functions -/
theorem calmB_len : CalmB gLen := by
  intro ds h c fs h'; unfold gLen
  repeat (first | split | (intro z; cases z))
theorem calmB_int : CalmB gInt := by
  intro ds h c fs h'; unfold gInt
  repeat (first | split | (intro z; cases z))
theorem calmB_abs : CalmB gAbs := by
  intro ds h c fs h'; unfold gAbs
  repeat (first | split | (intro z; cases z))
theorem calmB_max : CalmB gMax := by
  intro ds h c fs h'; unfold gMax
  repeat (first | split | (intro z; cases z))
theorem calmB_min : CalmB gMin := by
  intro ds h c fs h'; unfold gMin
  repeat (first | split | (intro z; cases z))
theorem calmB_tuple : CalmB gTuple := by
  intro ds h c fs h'; unfold gTuple
  repeat (first | split | (intro z; cases z))
theorem calmB_list {m : Bool} : CalmB (gList m) := by
  intro ds h c fs h'; unfold gList
  split
  · split
    · exact fresh_calm
    · intro z; cases z
  · intro z; cases z
theorem calmB_all : CalmB gEvery := by
  intro ds h c fs h'; unfold gEvery
  repeat (first | split | (intro z; cases z))
theorem calmB_any : CalmB gSome := by
  intro ds h c fs h'; unfold gSome
  repeat (first | split | (intro z; cases z))
theorem calmB_sum : CalmB gSum := by
  intro ds h c fs h'; unfold gSum
  repeat (first | split | (intro z; cases z))
variable {es : List Expr} {l : ML} {p : Pos}
theorem g_len (hm : X.mg "len" = none) (ha : DA X CL W c (e :: es) l) (hg : Gl X "len" := by rfl) (he : starEach (e :: es) X.env = (false, eval e X.env) :: starEach es X.env := by rfl) (hpl : (backTo pos (starEach es X.env)).any (·.1) = false := by rfl) :
    DE X CL W c (.Call (.Name "len" p) (e :: es) [] pos) (mB gLen l) := de_bif calmB_len ca_len hg hm (by first | rfl | kernel_rfl) ha (by decide) (by decide) he hpl
theorem g_abs (hm : X.mg "abs" = none) (ha : DA X CL W c (e :: es) l) (hg : Gl X "abs" := by rfl) (he : starEach (e :: es) X.env = (false, eval e X.env) :: starEach es X.env := by rfl) (hpl : (backTo pos (starEach es X.env)).any (·.1) = false := by rfl) :
    DE X CL W c (.Call (.Name "abs" p) (e :: es) [] pos) (mB gAbs l) := de_bif calmB_abs ca_abs hg hm (by first | rfl | kernel_rfl) ha (by decide) (by decide) he hpl
theorem g_max (hm : X.mg "max" = none) (hc : X.calm = true) (ha : DA X CL W c (e :: es) l) (hg : Gl X "max" := by rfl) (he : starEach (e :: es) X.env = (false, eval e X.env) :: starEach es X.env := by rfl) (hpl : (backTo pos (starEach es X.env)).any (·.1) = false := by rfl) :
    DE X CL W c (.Call (.Name "max" p) (e :: es) [] pos) (mB gMax l) := de_bif calmB_max (ca_max hc) hg hm (by first | rfl | kernel_rfl) ha (by decide) (by decide) he hpl
theorem g_min (hm : X.mg "min" = none) (hc : X.calm = true) (ha : DA X CL W c (e :: es) l) (hg : Gl X "min" := by rfl) (he : starEach (e :: es) X.env = (false, eval e X.env) :: starEach es X.env := by rfl) (hpl : (backTo pos (starEach es X.env)).any (·.1) = false := by rfl) :
    DE X CL W c (.Call (.Name "min" p) (e :: es) [] pos) (mB gMin l) := de_bif calmB_min (ca_min hc) hg hm (by first | rfl | kernel_rfl) ha (by decide) (by decide) he hpl
theorem g_all (hm : X.mg "all" = none) (hc : X.calm = true) (ha : DA X CL W c (e :: es) l) (hg : Gl X "all" := by rfl) (he : starEach (e :: es) X.env = (false, eval e X.env) :: starEach es X.env := by rfl) (hpl : (backTo pos (starEach es X.env)).any (·.1) = false := by rfl) :
    DE X CL W c (.Call (.Name "all" p) (e :: es) [] pos) (mB gEvery l) := de_bif calmB_all (ca_all hc) hg hm (by first | rfl | kernel_rfl) ha (by decide) (by decide) he hpl
theorem g_any (hm : X.mg "any" = none) (hc : X.calm = true) (ha : DA X CL W c (e :: es) l) (hg : Gl X "any" := by rfl) (he : starEach (e :: es) X.env = (false, eval e X.env) :: starEach es X.env := by rfl) (hpl : (backTo pos (starEach es X.env)).any (·.1) = false := by rfl) :
    DE X CL W c (.Call (.Name "any" p) (e :: es) [] pos) (mB gSome l) := de_bif calmB_any (ca_any hc) hg hm (by first | rfl | kernel_rfl) ha (by decide) (by decide) he hpl
theorem g_sum (hm : X.mg "sum" = none) (hc : X.calm = true) (ha : DA X CL W c (e :: es) l) (hg : Gl X "sum" := by rfl) (he : starEach (e :: es) X.env = (false, eval e X.env) :: starEach es X.env := by rfl) (hpl : (backTo pos (starEach es X.env)).any (·.1) = false := by rfl) :
    DE X CL W c (.Call (.Name "sum" p) (e :: es) [] pos) (mB gSum l) := de_bif calmB_sum (ca_sum hc) hg hm (by first | rfl | kernel_rfl) ha (by decide) (by decide) he hpl
theorem g_int (hm : X.mg "int" = none) (ha : DA X CL W c (e :: es) l) (hg : Gl X "int" := by rfl) (he : starEach (e :: es) X.env = (false, eval e X.env) :: starEach es X.env := by rfl) (hpl : (backTo pos (starEach es X.env)).any (·.1) = false := by rfl) :
    DE X CL W c (.Call (.Name "int" p) (e :: es) [] pos) (mB gInt l) := de_bty calmB_int ca_int hg hm (by first | rfl | kernel_rfl) ha (by decide) (by decide) he hpl
theorem g_tuple (hm : X.mg "tuple" = none) (ha : DA X CL W c (e :: es) l) (hg : Gl X "tuple" := by rfl) (he : starEach (e :: es) X.env = (false, eval e X.env) :: starEach es X.env := by rfl) (hpl : (backTo pos (starEach es X.env)).any (·.1) = false := by rfl) :
    DE X CL W c (.Call (.Name "tuple" p) (e :: es) [] pos) (mB gTuple l) := de_bty calmB_tuple ca_tuple hg hm (by first | rfl | kernel_rfl) ha (by decide) (by decide) he hpl
theorem g_list {m : Bool} (hm : X.mg "list" = none) (ha : DA X CL W c (e :: es) l) (hg : Gl X "list" := by rfl) (he : starEach (e :: es) X.env = (false, eval e X.env) :: starEach es X.env := by rfl) (hpl : (backTo pos (starEach es X.env)).any (·.1) = false := by rfl) :
    DE X CL W c (.Call (.Name "list" p) (e :: es) [] pos) (mB (gList m) l) := de_bty calmB_list ca_list hg hm (by first | rfl | kernel_rfl) ha (by decide) (by decide) he hpl
end
end Ev

/-! Ev18: methods, comprehensions, calls, statements as the printer names them. -/
namespace Ev
open PySem PySem.Spec PyProof.Rows L2 PySem.Calls

/-! ### methods -/
def kAppend : Kd → Option FM
  | .list => some fAppend
  | _ => none
def kExtend : Kd → Option FM
  | .list => some fExtend
  | _ => none
def kPop : Kd → Option FM
  | .list => some fPop
  | _ => none
def kInsert : Kd → Option FM
  | .list => some fInsert
  | _ => none
def kReverse : Kd → Option FM
  | .list => some fReverse
  | _ => none
def kClear : Kd → Option FM
  | .list => some fClear
  | _ => none
def fIndexL : FM := fun d ds h => match kindOf d h with
  | some .list => fIndex d ds h
  | _ => .stuck
def fIndexT : FM := fun d ds h => match kindOf d h with
  | some .tuple => fIndex d ds h
  | _ => .stuck
def kIndex : Kd → Option FM
  | .list => some fIndexL
  | .tuple => some fIndexT
  | _ => none
def kGet : Kd → Option FM
  | .dict => some fGet
  | _ => none
def kJoin : Kd → Option FM
  | .str => some fJoin
  | _ => none
section
variable {X : Cx}
theorem fIndex_calm {d : D} {ds : List D} {h : Hd} {c : Nat} {fs : List D} {h' : Hd} : fIndex d ds h ≠ .exn c fs h' := by
  unfold fIndex
  repeat (first | split | (intro z; cases z))
theorem mth_append : ∀ k f, kAppend k = some f → Mth X "append" k f
  | .list, _, rfl => ⟨fun d ds h c fs h' => by unfold fAppend; repeat (first | split | (intro z; cases z)), _, PySem.F.plainAttrs_list, PySem.F.slot_list_append, PySem.F.type_list_append, me_append⟩
theorem mth_extend : ∀ k f, kExtend k = some f → Mth X "extend" k f
  | .list, _, rfl => ⟨fun d ds h c fs h' => by unfold fExtend; repeat (first | split | (intro z; cases z)), _, PySem.F.plainAttrs_list, PySem.F.slot_list_extend, PySem.F.type_list_extend, me_extend⟩
theorem mth_pop : ∀ k f, kPop k = some f → Mth X "pop" k f
  | .list, _, rfl => ⟨fun d ds h c fs h' => by unfold fPop; repeat (first | split | (intro z; cases z)), _, PySem.F.plainAttrs_list, PySem.F.slot_list_pop, PySem.F.type_list_pop, me_pop⟩
theorem mth_insert : ∀ k f, kInsert k = some f → Mth X "insert" k f
  | .list, _, rfl => ⟨fun d ds h c fs h' => by unfold fInsert; repeat (first | split | (intro z; cases z)), _, PySem.F.plainAttrs_list, PySem.F.slot_list_insert, PySem.F.type_list_insert, me_insert⟩
theorem mth_reverse : ∀ k f, kReverse k = some f → Mth X "reverse" k f
  | .list, _, rfl => ⟨fun d ds h c fs h' => by unfold fReverse; repeat (first | split | (intro z; cases z)), _, PySem.F.plainAttrs_list, PySem.F.slot_list_reverse, PySem.F.type_list_reverse, me_reverse⟩
theorem mth_clear : ∀ k f, kClear k = some f → Mth X "clear" k f
  | .list, _, rfl => ⟨fun d ds h c fs h' => by unfold fClear; repeat (first | split | (intro z; cases z)), _, PySem.F.plainAttrs_list, PySem.F.slot_list_clear, PySem.F.type_list_clear, me_clear⟩
theorem mth_index (hu : X.A.units + 560 < cLine) : ∀ k f, kIndex k = some f → Mth X "index" k f
  | .list, _, rfl => ⟨fun d ds h c fs h' => by unfold fIndexL; split <;> first | exact fIndex_calm | (intro z; cases z), _, PySem.F.plainAttrs_list, PySem.F.slot_list_index, PySem.F.type_list_index, me_index hu⟩
  | .tuple, _, rfl => ⟨fun d ds h c fs h' => by unfold fIndexT; split <;> first | exact fIndex_calm | (intro z; cases z), _, PySem.F.plainAttrs_tuple, PySem.F.slot_tuple_index, PySem.F.type_tuple_index, me_tindex hu⟩
theorem mth_get (hu : X.A.units + 560 < cLine) : ∀ k f, kGet k = some f → Mth X "get" k f
  | .dict, _, rfl => ⟨fun d ds h c fs h' => by unfold fGet; repeat (first | split | (intro z; cases z)), _, PySem.F.plainAttrs_dict, PySem.F.slot_dict_get, PySem.F.type_dict_get, me_get hu⟩
theorem mth_join : ∀ k f, kJoin k = some f → Mth X "join" k f
  | .str, _, rfl => ⟨fun d ds h c fs h' => by unfold fJoin; repeat (first | split | (intro z; cases z)), _, PySem.F.plainAttrs_str, PySem.F.slot_str_join, PySem.F.type_str_join, me_join⟩
end
section
variable {X : Cx} {CL : List XC} {W : WX} {c : Calls} {a b e o : Expr} {ma mb me mo : M} {pos p apos : Pos} {es : List Expr} {l : ML}
theorem g_meth {name : Str} {fs : Kd → Option FM} (hm : ∀ k f, fs k = some f → Mth X name k f) (ho : DE X CL W c o mo) (ha : DA X CL W c (e :: es) l) (hbase : attributeBase o name X.env (eval o X.env) = eval o X.env := by rfl)
    (hfew : ((backTo pos (starEach (e :: es) X.env)).all (fun x => !x.1) && (backToKw pos (keywordEach [] X.env)).all (fun x => x.1.isSome) && decide ((e :: es).length + ([] : List Keyword).length + (if ([] : List Keyword).isEmpty then 0 else 1) < 30)) = true := by rfl)
    (hline : (apos.endLine == pos.line) = true := by rfl) (hs : starEach (e :: es) X.env = (false, eval e X.env) :: starEach es X.env := by rfl) (hplain : (backTo pos (starEach es X.env)).any (·.1) = false := by rfl) :
    DE X CL W c (.Call (.Attribute o name apos) (e :: es) [] pos) (mMt fs mo l) := de_meth hm ho ha hbase hfew hline hs hplain
theorem g_meth0 {name : Str} {fs : Kd → Option FM} (hm : ∀ k f, fs k = some f → Mth X name k f) (ho : DE X CL W c o mo) (hbase : attributeBase o name X.env (eval o X.env) = eval o X.env := by rfl) (hline : (apos.endLine == pos.line) = true := by rfl) :
    DE X CL W c (.Call (.Attribute o name apos) [] [] pos) (mMt fs mo aNil) := de_meth0 hm ho hbase hline
theorem g_isi (n : Ty) {y : Str} {p2 : Pos} (hm : X.mg "isinstance" = none) (hm2 : X.mg y = none) (he : DE X CL W c e me) (hg : Gl X "isinstance" := by rfl) (hg2 : Gl X y := by rfl) (hv2 : bootBuiltins y = some (.type n.n) := by first | rfl | kernel_rfl) (hn2 : y ≠ "__name__" := by decide) (hdb2 : (y == ("__debug__" : Str)) = false := by decide)
    (hs : starEach [e, .Name y p2] X.env = (false, eval e X.env) :: starEach [.Name y p2] X.env := by rfl) : DE X CL W c (.Call (.Name "isinstance" p) [e, .Name y p2] [] pos) (mUn (dIs n) me) :=
  de_isi hg hm (by first | rfl | kernel_rfl) hg2 hm2 hv2 he (by decide) (by decide) hn2 hdb2 hs
theorem g_call {x : Str} {ps : List Str} {j k : Nat} (C : CalleeOk X.prog X.w X.K X.mg X.base CL k (c j) x ps) (hr : Room k X.A) (tk : Takes X W) (ha : DA X CL W c (e :: es) l) (hg : Gl X x := by rfl)
    (hdb : (x == ("__debug__" : Str)) = false := by decide) (he : starEach (e :: es) X.env = (false, eval e X.env) :: starEach es X.env := by rfl) (hpl : (backTo pos (starEach es X.env)).any (·.1) = false := by rfl) : DE X CL W c (.Call (.Name x p) (e :: es) [] pos) (mCall j l) :=
  de_call C hr hg tk ha hdb he hpl
/-! str of an int -/
def dStr (x : D) (h : Hd) : Res D := match x with
  | .int i => if i.natAbs.log2 < 1920 ∧ (PySem.PyData.strOk (PySem.Str.ofString (toString i)) && decide ((PySem.Str.ofString (toString i)).cps.size ≤ 1000000)) = true then .ok (.str (PySem.Str.ofString (toString i)).cps.toList) h else .stuck
  | _ => .stuck
def gStr : FB := fun ds h => match ds with
  | [x] => dStr x h
  | _ => .stuck
theorem ca_str : CaE X (.type "str") gStr := by
  intro pins s σ H xs us Q I rv ⟨r, h, ds, Y, ra, q⟩
  unfold gStr dStr at q
  split at q
  · obtain ⟨v, rfl, rp⟩ := one_of ra
    split at q
    · rename_i i
      split at q
      · rename_i hb
        cases rp
        exact call_str_int pins s σ H _ us Q I rv ⟨i, rfl, hb.1, q.now Y (.str _ (sok_of hb.2))⟩
      · exact q.elim
    · exact q.elim
  · exact q.elim
theorem calmB_str : CalmB gStr := by
  intro ds h c fs h'; unfold gStr dStr
  repeat (first | split | (intro z; cases z))
theorem g_strI (hm : X.mg "str" = none) (ha : DA X CL W c (e :: es) l) (hg : Gl X "str" := by rfl) (he : starEach (e :: es) X.env = (false, eval e X.env) :: starEach es X.env := by rfl) (hpl : (backTo pos (starEach es X.env)).any (·.1) = false := by rfl) :
    DE X CL W c (.Call (.Name "str" p) (e :: es) [] pos) (mB gStr l) := de_bty calmB_str ca_str hg hm (by first | rfl | kernel_rfl) ha (by decide) (by decide) he hpl
theorem g_revd {m : Bool} {k : Nat} {p1 p2 p3 : Pos} (he : DE X CL W c e me) : DE X CL W c (.Subscript e (.Slice none none (some (.UnaryOp .USub (.Constant (.int 1) k p1) p2)) p3) pos) (mUn (dRevd m) me) := de_revd he
theorem g_listRev {m : Bool} {p2 pos2 : Pos} (hm : X.mg "list" = none) (hm2 : X.mg "reversed" = none) (hc : X.calm = true) (he : DE X CL W c e me) (hg : Gl X "list" := by rfl) (hg2 : Gl X "reversed" := by rfl) (hs : starEach [e] X.env = (false, eval e X.env) :: starEach [] X.env := by rfl)
    (hs2 : starEach [.Call (.Name "reversed" p2) [e] [] pos2] X.env = (false, eval (.Call (.Name "reversed" p2) [e] [] pos2) X.env) :: starEach [] X.env := by rfl) : DE X CL W c (.Call (.Name "list" p) [.Call (.Name "reversed" p2) [e] [] pos2] [] pos) (mUn (dLRev m) me) := de_listRev hc hg hm hg2 hm2 he hs hs2
/-! iterators -/
theorem g_rng1 {tg : Expr} (hm : X.mg "range" = none) (ha : DE X CL W c a ma) (hg : Gl X "range" := by rfl) (hs : starEach [a] X.env = [(false, eval a X.env)] := by rfl) : DI X CL W c tg (.Call (.Name "range" p) [a] [] pos) (iRng1 ma) := di_rng1 hg hm ha hs
theorem g_rng2 {tg : Expr} (hm : X.mg "range" = none) (ha : DE X CL W c a ma) (hb : DE X CL W c b mb) (hg : Gl X "range" := by rfl) (hs : starEach [a, b] X.env = [(false, eval a X.env), (false, eval b X.env)] := by rfl) (hs2 : starEach [b] X.env = [(false, eval b X.env)] := by rfl) :
    DI X CL W c tg (.Call (.Name "range" p) [a, b] [] pos) (iRng2 ma mb) := di_rng2 hg hm ha hb hs hs2
theorem g_rev {tg : Expr} (hm : X.mg "reversed" = none) (he : DE X CL W c e me) (hg : Gl X "reversed" := by rfl) (hs : starEach [e] X.env = (false, eval e X.env) :: starEach [] X.env := by rfl) : DI X CL W c tg (.Call (.Name "reversed" p) [e] [] pos) (iRevV me) := di_rev hg hm he hs
/-! targets -/
theorem g_nm (i : Nat) {x : Str} (hN : X.N.Nodup) (hi : X.N[i]? = some x := by rfl) (hx : Loc X.env.scope x := by first | exact Or.inl rfl | exact Or.inr rfl) (hf : X.fn x = true ∨ X.env.scope.names.lookup x = some .local := by first | exact Or.inl rfl | exact Or.inr rfl) : DG X (.Name x pos) (.nm i) := dg_nm hN hi hx hf
theorem g_nms0 : Nms X [] [] := .nil
theorem g_nms {x : Str} {pos : Pos} (i : Nat) {es : List Expr} {is : List Nat} (h : Nms X es is) (hi : X.N[i]? = some x := by rfl) (hx : Loc X.env.scope x := by first | exact Or.inl rfl | exact Or.inr rfl) (hf : X.fn x = true ∨ X.env.scope.names.lookup x = some .local := by first | exact Or.inl rfl | exact Or.inr rfl) : Nms X (.Name x pos :: es) (i :: is) := .cons hi hx hf h
/-! comprehensions -/
theorem pts_none {K : PySem.W.Frag} {X : Cx} : PTs X [] (rd K CL W0 relB c tYesM) := ⟨fun pins s σ H Q I ⟨r, t, h, Y, S, q⟩ => pts_nil.run pins s σ H Q I (q.now Y rfl)⟩
theorem g_comp {elt tg iter : Expr} {ifs : List Expr} {scope : Scope} (own : List (Str × Nat)) {mi : MI} {g : Tg} {mk : MB} {bb : Bool} (hc : X.calm = true) (hN : X.N.Nodup) (hi : DI X CL W c tg iter mi)
    (hg : BlkP X scope fun X' => DG X' tg g) (hk : BlkP X scope fun X' => PTs X' ifs (rd X.K CL W0 relB c mk)) (he : BlkP X scope fun X' => DE X' CL W0 c elt me) (ok : blkC X.N X.env.scope scope own = true := by first | rfl | kernel_rfl) (ho : ∀ i ∈ g.own, i ∈ own.map (·.2) := by decide) (hs : ∀ x, foldedSetIterable iter X.env x = pure x := by intro _; rfl) :
    DE X CL W c (.ListComp elt [⟨tg, iter, ifs, 0⟩] scope pos) (mComp bb mi g (own.map (·.2)) mk me) := de_comp hc hN hi (blkOk_by ok) hg hk he ho hs
/-! statements -/
theorem s_expr {m : M} (h : DE X CL W c e m) (hs : swapsWith e none pos.line X.env = pure false := by rfl) : DS X CL W c (.Expr e pos) (sExpr m) := ds_expr h hs
theorem s_set {x : Str} (i : Nat) {m : M} {px : Pos} (hN : X.N.Nodup) (h : DE X CL W c e m) (hi : X.N[i]? = some x := by rfl) (hx : Loc X.env.scope x := by first | exact Or.inl rfl | exact Or.inr rfl) (hf : X.fn x = true ∨ X.env.scope.names.lookup x = some .local := by first | exact Or.inl rfl | exact Or.inr rfl)
    (hs : swapsWith e (some (.Name x px)) pos.line X.env = pure false := by rfl) : DS X CL W c (.Assign [.Name x px] e pos) (sSet i m) := ds_set h hN hi hx hf hs
theorem s_asg {g : Tg} {tg : Expr} {m : M} (h : DE X CL W c e m) (hg : DG X tg g) (hs : swapsWithSole [tg] e pos.line X.env = pure false := by rfl) (hw : swappedStores [tg] e X.env = pure none := by rfl) (h1 : (assignEach [tg] X.env).map (·.2) = [assign tg X.env] := by rfl) : DS X CL W c (.Assign [tg] e pos) (sAsg g m) := ds_asg h hg hs hw h1
theorem s_setc {x : Str} (i : Nat) {px spos : Pos} {elt tg iter : Expr} {ifs : List Expr} {scope : Scope} (own : List (Str × Nat)) {mi : MI} {g : Tg} {mk : MB} {bb : Bool} (hc : X.calm = true) (hN : X.N.Nodup) (hi : DI X CL W c tg iter mi)
    (hg : BlkP X scope fun X' => DG X' tg g) (hk : BlkP X scope fun X' => PTs X' ifs (rd X.K CL W0 relB c mk)) (he : BlkP X scope fun X' => DE X' CL W0 c elt me) (ok : blkC X.N X.env.scope scope own = true := by first | rfl | kernel_rfl) (ho : ∀ i ∈ g.own, i ∈ own.map (·.2) := by decide) (hs : ∀ x, foldedSetIterable iter X.env x = pure x := by intro _; rfl)
    (hk' : X.env.scope.kind = .function := by rfl) (hy : X.N[i]? = some x := by rfl) (hyl : X.env.scope.names.lookup x = some .local := by rfl) (hl : (px.line == pos.line) = true := by rfl) (hna : (scope.names.any fun (n, k) => n == x && (k == .local || k == .cell)) = false := by rfl) :
    DS X CL W c (.Assign [.Name x px] (.ListComp elt [⟨tg, iter, ifs, 0⟩] scope pos) spos) (sSet i (mComp bb mi g (own.map (·.2)) mk me)) :=
  psimp (ps_setLc (g := TGD X.K g) (tt := rd X.K CL W0 relB c mk) (te := rd X.K CL W0 (relD X.K) c me) hc hN hy hyl (sw_true hk' hyl hl hna) hi (blkOk_by ok) hg hk he hs) fun E σ H ⟨r, t, h, Y, S, q⟩ => by
    obtain ⟨r', t', h', Y', S', q'⟩ : rd X.K CL W (relD X.K) c (mComp bb mi g (own.map (·.2)) mk me) σ H fun v H1 => E.nx (σ.set i (some v)) H1 :=
      (rs_bind Y S q).mono fun v H1 ⟨r1, h1, d, e1, Y1, S1, rv, q1⟩ => q1.nx Y1 (S1.set i rv)
    exact (rd_bind (rel1 := relI X.K) Y' S' q').mono fun J H1 ⟨r1, h1, s, e1, Y1, S1, rI, q1⟩ => fun p np => comp_core Y1 S1 rI ho q1 p np
/-- o[i] = e -/
theorem s_sub {i : Expr} {mi : M} {pt : Pos} (ho : DE X CL W c o mo) (hi : DE X CL W c i mi) (he : DE X CL W c e me) (hs : swapsWithSole [.Subscript o i pt] e pos.line X.env = pure false := by rfl) (hw : swappedStores [.Subscript o i pt] e X.env = pure none := by rfl)
    (h1 : (assignEach [.Subscript o i pt] X.env).map (·.2) = [assign (.Subscript o i pt) X.env] := by rfl)
    (ha : ∀ v, assign (.Subscript o i pt) X.env v = (do
      let ov ← holding [v] (eval o X.env)
      let iv ← holding [v, ov] (eval i X.env)
      standAt pt
      holding [v, ov, iv] (setItem ov iv v)
      release [v, ov, iv] []) := by intro _; rfl) : DS X CL W c (.Assign [.Subscript o i pt] e pos) (sSub mo mi me) :=
  psimp (ps_asg he (pg_sub ho hi set_list ha) hs hw h1) fun E σ H ⟨r, t, h, Y, S, q⟩ => (rs_bind Y S q).mono fun v H1 ⟨r1, h1, d, e1, Y1, S1, rv, q1⟩ => (rs_bind Y1 S1 q1).mono fun x H2 ⟨r2, h2, dx, e2, Y2, S2, rx, q2⟩ => (rs_bind Y2 S2 q2).mono fun y H3 ⟨r3, h3, dy, e3, Y3, S3, ry, q3⟩ => by
    unfold dSet at q3
    split at q3
    · rename_i j
      split at q3
      · rename_i xs ej
        split at q3
        · rename_i n
          split at q3
          · rename_i jj ejj
            have rx3 := rx.mono e3
            cases ry
            cases rx3 with
            | ref f =>
              obtain ⟨o', h4, h5⟩ := Y3.get _ _ f
              rw [ej] at h4; cases h4
              obtain ⟨vs, h6, h7⟩ := h5
              have rv3 := (rv.mono e2).mono e3
              obtain ⟨Y4, x4⟩ := set_any (j := jj) Y3 f h7 rv3
              exact ⟨_, vs, n, jj, rfl, rfl, h6, by rw [h7.len]; exact ejj, rdS.nx (rdS.ext x4 q3) Y4 (S3.mono x4)⟩
            | dead f =>
              have := Y3.dead _ f
              rw [ej] at this; cases this
          · exact q3.elim
        · exact q3.elim
      · exact q3.elim
    · exact q3.elim
end
end Ev

/-! Ev19: errors as the printer names them. -/
namespace Ev
open PySem PySem.Spec PyProof.Rows L2 PySem.Calls
open PySem.W (Frag)
theorem takes00 {X : Cx} : Takes X W0 := fun _ _ x => by
  obtain ⟨_, _, _, _, _, _, _, _, _, _, _, _, _, _, _, _, z⟩ := x
  exact z.elim
theorem hu_of23 {A : Around} {k : Nat} (hr : Room k A) (hk : 23 ≤ k) : A.units + 560 < cLine := by
  have := hr.un
  omega
/-- what the written part says of all error classes -/
structure XAll (K : Frag) (CL : List XC) (nmf : Nat → List Str) : Prop where
  nm : ∀ (k : Nat) (y : XC), CL[k]? = some y → nmf k = y.fields
  xf : ∀ (k : Nat) (y : XC), CL[k]? = some y → XfC K y.addr
  no : ∀ (k : Nat) (y : XC), CL[k]? = some y → ∀ f ∈ y.fields, PySem.W.findIn K (.ref y.addr) f = some none
  ex : ∀ (k : Nat) (y : XC), CL[k]? = some y → ExcC K y.addr
section
variable {X : Cx} {CL : List XC} {W : WX} {c : Calls} {a : Addr} {oe : Obj} {d : Option Addr} {pn : List (Addr × Obj)} {e : Expr} {m : M} {pos p : Pos} {k : Nat} {y : XC} {nmf : Nat → List Str}
theorem zip_none {β : Type} {f : Str} : ∀ {nm : List Str} {vs : List β}, f ∉ nm → (nm.zip vs).lookup f = none
  | [], _, _ => by simp
  | _ :: _, [], _ => by simp
  | g :: nm, v :: vs, h => by
    have h1 : f ≠ g := fun e => h (by rw [e]; exact List.mem_cons_self)
    rw [List.zip_cons_cons, List.lookup_cons, beq_eq_false_iff_ne.mpr h1]
    exact zip_none fun m => h (List.mem_cons_of_mem _ m)
theorem g_fld {f : Str} (G : XAll X.K CL nmf) (hy : CL[k]? = some y) (hz : Zc (.ref y.addr) d oe) (hf : ∃ vs, oe.data = .fields vs) (he : DE (X.suite a ((a, oe) :: pn)) CL W c e m) (hb : attributeBase e f X.env (eval e X.env) = eval e X.env := by rfl) :
    DE (X.suite a ((a, oe) :: pn)) CL W c (.Attribute e f pos) (mUn (dFld a d (nmf k) f) m) := by
  by_cases hm : f ∈ nmf k
  · exact de_fld (G.xf k y hy) (fun _ => G.no k y hy f (by rw [← G.nm k y hy]; exact hm)) hz hf he hm hb
  · refine ⟨fun pins s σ H Q I ⟨r, t, h, Y, S, q⟩ => attr_of hb (thn (he.run pins s σ H (fun _ _ => False) I ((rd_bind Y S q).mono fun v H1 ⟨r1, h1, x, e1, Y1, S1, rv, q1⟩ => ?_)) fun u s1 ⟨_, _, _, _, z⟩ => z.elim)⟩
    unfold dFld at q1
    split at q1
    · split at q1
      · rename_i fs hcc
        rw [zip_none hm] at q1
        exact q1
      · exact q1
    · exact q1
theorem g_isXo {E : Str} {cE : Addr} {b : Bool} {p2 : Pos} (G : XAll X.K CL nmf) (hy : CL[k]? = some y) (hz : Zc (.ref y.addr) d oe) (hf : ∃ vs, oe.data = .fields vs) (hm : X.mg "isinstance" = none) (hE : X.mg E = some (.ref cE)) (hk : PySem.W.kitOne X.K (.ref y.addr) (.ref cE) = some b) (he : DE (X.suite a ((a, oe) :: pn)) CL W c e m)
    (hg : Gl X "isinstance" := by rfl) (hg2 : Gl X E := by rfl) (hd2 : (E == ("__debug__" : Str)) = false := by decide) (hs : starEach [e, .Name E p2] X.env = (false, eval e X.env) :: starEach [.Name E p2] X.env := by rfl) :
    DE (X.suite a ((a, oe) :: pn)) CL W c (.Call (.Name "isinstance" p) [e, .Name E p2] [] pos) (mUn (dIsX a d b) m) :=
  de_isX (cx := .ref cE) (cv := .ref cE) (G.ex k y hy) hz hf hg hm (by first | rfl | kernel_rfl) (by decide) (by decide) he (pe_glob (X := X.suite a ((a, oe) :: pn)) hg2 hE rfl hd2) (fun u r => r) hk hs rfl rfl
theorem g_isXb {E : Str} {T : String} {b : Bool} {p2 : Pos} (G : XAll X.K CL nmf) (hy : CL[k]? = some y) (hz : Zc (.ref y.addr) d oe) (hf : ∃ vs, oe.data = .fields vs) (hm : X.mg "isinstance" = none) (hE : X.mg E = none) (hk : PySem.W.kitOne X.K (.ref y.addr) (.type T) = some b) (he : DE (X.suite a ((a, oe) :: pn)) CL W c e m)
    (hv : bootBuiltins E = some (.type T) := by first | rfl | kernel_rfl) (hg : Gl X "isinstance" := by rfl) (hg2 : Gl X E := by rfl) (hn : E ≠ "__name__" := by decide) (hd2 : (E == ("__debug__" : Str)) = false := by decide) (hs : starEach [e, .Name E p2] X.env = (false, eval e X.env) :: starEach [.Name E p2] X.env := by rfl) :
    DE (X.suite a ((a, oe) :: pn)) CL W c (.Call (.Name "isinstance" p) [e, .Name E p2] [] pos) (mUn (dIsX a d b) m) :=
  de_isX (cx := .ty T) (cv := .type T) (G.ex k y hy) hz hf hg hm (by first | rfl | kernel_rfl) (by decide) (by decide) he (pe_bltn (X := X.suite a ((a, oe) :: pn)) hg2 hE hv (v := .ty T) rfl hn hd2) (fun u r => r) hk hs rfl rfl
end
end Ev

/-! Ev20: constants of the top. -/
namespace Ev
open PySem PySem.Spec PyProof.Rows L2 PySem.Calls
open PySem.W (Frag)
theorem rep_lit {K : Frag} {H : Hp} {r : Rho} {x : Str} {s : List Nat} (hs : x.cps.toList = s) (hx : (PySem.PyData.strOk x && decide (x.cps.size ≤ 1000000)) = true) : Rep K H r (.str x) (.str s) := by
  subst hs
  exact .str x (sok_of hx)
theorem rep_ktup {K : Frag} {a : Addr} {us : List Value} {m : Nat} {vs : List V} {ds : List D} (l : K.lookup a = some { cls := .type "tuple", dict := none, data := .seq us.toArray m, slots := #[] }) (rv : Vals vs us) (hz : us.length ≤ sizeLine) (ra : RepA K (fun _ => none) Rho.nil vs ds) : Rep K (fun _ => none) Rho.nil (.ref a) (.tup ds) :=
  .tup (.inr ⟨.inr ⟨_, us.toArray, m, l, rfl, rfl, by rw [List.size_toArray]; exact hz, by simpa using rv⟩, _, l, _, _, rfl⟩) ra
end Ev

/-! Ev21: evaluation by simp. -/
namespace Ev
open PySem L2
section
variable {α β : Type} {c : Calls} {t : Tau} {h : Hd}
@[simp] theorem bind_ok (a : α) (k : α → Hd → Res β) : (Res.ok a h).bind k = k a h := rfl
@[simp] theorem bind_exn (n : Nat) (fs : List D) (k : α → Hd → Res β) : (Res.exn n fs h).bind k = .exn n fs h := rfl
@[simp] theorem bind_stuck (k : α → Hd → Res β) : (Res.stuck : Res α).bind k = .stuck := rfl
@[simp] theorem toS_ok (a : α) (k : α → Hd → SR) : (Res.ok a h).toS t k = k a h := rfl
@[simp] theorem toS_exn (n : Nat) (fs : List D) (k : α → Hd → SR) : (Res.exn n fs h).toS t k = .exn n fs t h := rfl
@[simp] theorem toS_stuck (k : α → Hd → SR) : (Res.stuck : Res α).toS t k = .stuck := rfl
@[simp] theorem seq_nx (k : Tau → Hd → SR) : (SR.nx t h).seq k = k t h := rfl
@[simp] theorem seq_rt (d : D) (k : Tau → Hd → SR) : (SR.rt d h).seq k = .rt d h := rfl
@[simp] theorem seq_bk (k : Tau → Hd → SR) : (SR.bk t h).seq k = .bk t h := rfl
@[simp] theorem seq_ct (k : Tau → Hd → SR) : (SR.ct t h).seq k = .ct t h := rfl
@[simp] theorem seq_exn (n : Nat) (fs : List D) (k : Tau → Hd → SR) : (SR.exn n fs t h).seq k = .exn n fs t h := rfl
@[simp] theorem turn_nx (k : Tau → Hd → SR) : (SR.nx t h).turn k = k t h := rfl
@[simp] theorem turn_ct (k : Tau → Hd → SR) : (SR.ct t h).turn k = k t h := rfl
@[simp] theorem turn_bk (k : Tau → Hd → SR) : (SR.bk t h).turn k = .nx t h := rfl
@[simp] theorem turn_rt (d : D) (k : Tau → Hd → SR) : (SR.rt d h).turn k = .rt d h := rfl
@[simp] theorem turn_exn (n : Nat) (fs : List D) (k : Tau → Hd → SR) : (SR.exn n fs t h).turn k = .exn n fs t h := rfl
@[simp] theorem mVar_ev (i : Nat) : mVar i c t h = match t[i]? with | some (some d) => .ok d h | _ => .stuck := rfl
@[simp] theorem mC_ev (d : D) : mC d c t h = .ok d h := rfl
@[simp] theorem aNil_ev : aNil c t h = .ok [] h := rfl
@[simp] theorem aCons_ev (m : M) (l : ML) : aCons m l c t h = (m c t h).bind fun d h1 => (l c t h1).bind fun ds h2 => .ok (d :: ds) h2 := rfl
@[simp] theorem mTup_ev (l : ML) : mTup l c t h = (l c t h).bind freshT := rfl
@[simp] theorem mLst_ev (b : Bool) (l : ML) : mLst b l c t h = (l c t h).bind (fresh b) := rfl
@[simp] theorem mOp_ev (f : D → D → Hd → Res D) (a b : M) : mOp f a b c t h = (a c t h).bind fun x h1 => (b c t h1).bind fun y h2 => f x y h2 := rfl
@[simp] theorem mUn_ev (f : D → Hd → Res D) (a : M) : mUn f a c t h = (a c t h).bind f := rfl
@[simp] theorem tVal_ev (a : M) : tVal a c t h = (a c t h).bind dTrue := rfl
@[simp] theorem tCmp_ev (a : M) : tCmp a c t h = (a c t h).bind dBl := rfl
@[simp] theorem dBl_ev (b : Bool) : dBl (.bl b) h = .ok b h := rfl
@[simp] theorem dTrue_bl (b : Bool) : dTrue (.bl b) h = .ok b h := rfl
@[simp] theorem tAnd_ev (a b : MB) : tAnd a b c t h = (a c t h).bind fun k h1 => if k then b c t h1 else .ok false h1 := rfl
@[simp] theorem tOr_ev (a b : MB) : tOr a b c t h = (a c t h).bind fun k h1 => if k then .ok true h1 else b c t h1 := rfl
@[simp] theorem tNot_ev (a : MB) : tNot a c t h = (a c t h).bind fun k h1 => .ok (!k) h1 := rfl
@[simp] theorem mAnd_ev (a b : M) : mAnd a b c t h = (a c t h).bind fun x h1 => (dTrue x h1).bind fun k h2 => if k then b c t h2 else .ok x h2 := rfl
@[simp] theorem mOr_ev (a b : M) : mOr a b c t h = (a c t h).bind fun x h1 => (dTrue x h1).bind fun k h2 => if k then .ok x h2 else b c t h2 := rfl
@[simp] theorem mIf_ev (k : MB) (a b : M) : mIf k a b c t h = (k c t h).bind fun z h1 => if z then a c t h1 else b c t h1 := rfl
@[simp] theorem mChain_ev (f g : D → D → Hd → Res D) (a b e : M) : mChain f g a b e c t h = (a c t h).bind fun x h1 => (b c t h1).bind fun y h2 => (f x y h2).bind fun z h3 => (dBl z h3).bind fun k h4 =>
  if k then (e c t h4).bind fun w h5 => g y w h5 else .ok (.bl false) h4 := rfl
@[simp] theorem mCall_ev (i : Nat) (l : ML) : mCall i l c t h = (l c t h).bind fun ds h1 => c i ds h1 := rfl
@[simp] theorem mB_ev (f : List D → Hd → Res D) (l : ML) : mB f l c t h = (l c t h).bind f := rfl
@[simp] theorem pNo_ev : pNo c t h = .ok none h := rfl
@[simp] theorem pYes_ev (a : M) : pYes a c t h = (a c t h).bind dPart := rfl
@[simp] theorem dPart_ev (i : Int) : dPart (.int i) h = .ok (some i) h := rfl
@[simp] theorem mCut_ev (m : Bool) (a : M) (lo hi : Calls → Tau → Hd → Res (Option Int)) : mCut m a lo hi c t h = (a c t h).bind fun x h1 => (lo c t h1).bind fun l h2 => (hi c t h2).bind fun u h3 => dCut m x l u h3 := rfl
@[simp] theorem mMt_ev (fs : Kd → Option FM) (o : M) (l : ML) : mMt fs o l c t h = (o c t h).bind fun x h1 => match kindOf x h1 with
  | none => .stuck
  | some k => match fs k with
    | none => .stuck
    | some f => (l c t h1).bind fun ds h2 => f x ds h2 := rfl
@[simp] theorem sNil_ev : sNil c t h = .nx t h := rfl
@[simp] theorem sSeq_ev (a b : MS) : sSeq a b c t h = (a c t h).seq fun t' h' => b c t' h' := rfl
@[simp] theorem sExpr_ev (m : M) : sExpr m c t h = (m c t h).toS t fun _ h' => .nx t h' := rfl
@[simp] theorem sRet_ev (m : M) : sRet m c t h = (m c t h).toS t fun d h' => .rt d h' := rfl
@[simp] theorem sRetN_ev : sRetN c t h = .rt .non h := rfl
@[simp] theorem sBreak_ev : sBreak c t h = .bk t h := rfl
@[simp] theorem sCont_ev : sCont c t h = .ct t h := rfl
@[simp] theorem sSet_ev (i : Nat) (m : M) : sSet i m c t h = (m c t h).toS t fun d h' => .nx (t.set i (some d)) h' := rfl
@[simp] theorem sAsg_ev (g : Tg) (m : M) : sAsg g m c t h = (m c t h).toS t fun d h' => match asg g d t with
  | some t' => .nx t' h'
  | none => .stuck := rfl
@[simp] theorem sIf_ev (k : MB) (a b : MS) : sIf k a b c t h = (k c t h).toS t fun z h' => if z then a c t h' else b c t h' := rfl
@[simp] theorem sSub_ev (o i m : M) : sSub o i m c t h = (m c t h).toS t fun v h1 => (o c t h1).toS t fun x h2 => (i c t h2).toS t fun y h3 => (dSet x y v h3).toS t fun _ h4 => .nx t h4 := rfl
@[simp] theorem sRaise_ev (ci n : Nat) (l : ML) : sRaise ci n l c t h = (l c t h).toS t fun ds h' => if ds.length = n then .exn ci ds t h' else .stuck := rfl
@[simp] theorem tYes_ev : tYesM c t h = .ok true h := rfl
@[simp] theorem iVal_ev (m : M) : iVal m c t h = (m c t h).bind dIter := rfl
@[simp] theorem iRng1_ev (m : M) : iRng1 m c t h = (m c t h).bind dRng1 := rfl
@[simp] theorem iRng2_ev (a b : M) : iRng2 a b c t h = (a c t h).bind fun x h1 => (b c t h1).bind fun y h2 => dRng2 x y h2 := rfl
@[simp] theorem iRevV_ev (m : M) : iRevV m c t h = (m c t h).bind dRev := rfl
@[simp] theorem freshF (xs : List D) (hz : xs.length ≤ 16777216) : fresh false xs h = .ok (.lst xs) h := by
  unfold fresh
  rw [if_pos (by rw [sizeLine_eq]; exact hz), if_neg (by decide)]
@[simp] theorem freshO (xs : List D) (hz : xs.length ≤ 16777216) : fresh true xs h = .ok (.ref h.length) (h ++ [.lst xs]) := by
  unfold fresh
  rw [if_pos (by rw [sizeLine_eq]; exact hz), if_pos rfl]
@[simp] theorem freshT_ev (xs : List D) (hz : xs.length ≤ 16777216) : freshT xs h = .ok (.tup xs) h := by
  unfold freshT
  rw [if_pos (by rw [sizeLine_eq]; exact hz)]
end
/-! a comprehension whose parts change nothing -/
theorem comp_pure {s : Src} {h : Hd} {step : D → Hd → Res (Option D)} (ok : s.ok h) {f : D → Option D} : ∀ ds : List D, (∀ d ∈ ds, step d h = .ok (f d) h) → compL s step ds h = .ok (ds.filterMap f) h
  | [], _ => by unfold compL; rw [if_pos ok]; rfl
  | d :: ds, hs => by
    unfold compL
    rw [if_pos ok, hs d List.mem_cons_self, bind_ok, comp_pure ok ds fun x m => hs x (List.mem_cons_of_mem _ m), bind_ok]
    cases e : f d <;> simp [List.filterMap_cons, e]
/-! branches -/
@[simp] theorem ite_ok {α : Type} {p : Prop} [Decidable p] (a b : α) (h : Hd) : (if p then Res.ok a h else Res.ok b h) = Res.ok (if p then a else b) h := by split <;> rfl
@[simp] theorem ite_seq {p : Prop} [Decidable p] (x y : SR) (k : Tau → Hd → SR) : (if p then x else y).seq k = if p then x.seq k else y.seq k := by split <;> rfl
@[simp] theorem ite_fin {p : Prop} [Decidable p] (h : Hd) (x y : SR) : fin h (if p then x else y) = if p then fin h x else fin h y := by split <;> rfl
@[simp] theorem ite_turn {p : Prop} [Decidable p] (x y : SR) (k : Tau → Hd → SR) : (if p then x else y).turn k = if p then x.turn k else y.turn k := by split <;> rfl
/-! == of simple data -/
@[simp] theorem eqv_str (x y : List Nat) : D.eqv (.str x) (.str y) = (x == y) := by rw [D.eqv]
@[simp] theorem eqv_int (x y : Int) : D.eqv (.int x) (.int y) = (x == y) := by rw [D.eqv]
@[simp] theorem eqv_bl (x y : Bool) : D.eqv (.bl x) (.bl y) = (x == y) := by rw [D.eqv]
theorem has_nil (d : D) : D.has [] d = false := rfl
theorem has_str (x : List Nat) (xs : List D) (y : List Nat) : D.has (.str x :: xs) (.str y) = ((x == y) || D.has xs (.str y)) := by
  unfold D.has
  rw [List.any_cons, eqv_str]
/-! a call's end -/
theorem fin1_same {h : Hd} {d : D} (hd : d.lo h.length) : fin1 h d h = .ok d h := by
  unfold fin1
  rw [if_pos ⟨hd, fun j _ => .inl rfl⟩, List.take_length]
theorem fin1_app {h l : Hd} {d : D} (hd : d.lo h.length) : fin1 h d (h ++ l) = .ok d h := by
  unfold fin1
  rw [if_pos ⟨hd, fun j hj => .inl (List.getElem?_append_left hj)⟩, List.take_left]
theorem finX_app {h l : Hd} {k : Nat} {fs : List D} (hd : D.loA h.length fs) : finX h k fs (h ++ l) = .exn k fs h := by
  unfold finX
  rw [if_pos ⟨hd, fun j hj => .inl (List.getElem?_append_left hj)⟩, List.take_left]
theorem finX_same {h : Hd} {k : Nat} {fs : List D} (hd : D.loA h.length fs) : finX h k fs h = .exn k fs h := by
  unfold finX
  rw [if_pos ⟨hd, fun j _ => .inl rfl⟩, List.take_length]
@[simp] theorem fin_rt (h h' : Hd) (d : D) : fin h (.rt d h') = fin1 h d h' := rfl
@[simp] theorem fin_nx (h h' : Hd) (t : Tau) : fin h (.nx t h') = fin1 h .non h' := rfl
@[simp] theorem fin_exn (h h' : Hd) (t : Tau) (k : Nat) (fs : List D) : fin h (.exn k fs t h') = finX h k fs h' := rfl
@[simp] theorem lo_bl (n : Nat) (b : Bool) : (D.bl b).lo n := by unfold D.lo; trivial
@[simp] theorem lo_int (n : Nat) (b : Int) : (D.int b).lo n := by unfold D.lo; trivial
@[simp] theorem lo_str (n : Nat) (b : List Nat) : (D.str b).lo n := by unfold D.lo; trivial
@[simp] theorem lo_non (n : Nat) : (D.non).lo n := by unfold D.lo; trivial
@[simp] theorem lo_tup (n : Nat) (xs : List D) : (D.tup xs).lo n ↔ D.loA n xs := by rw [D.lo]
@[simp] theorem lo_lst (n : Nat) (xs : List D) : (D.lst xs).lo n ↔ D.loA n xs := by rw [D.lo]
@[simp] theorem lo_ref (n i : Nat) : (D.ref i).lo n ↔ i < n := by rw [D.lo]
@[simp] theorem loA_nil (n : Nat) : D.loA n [] := by unfold D.loA; trivial
@[simp] theorem loA_cons (n : Nat) (x : D) (xs : List D) : D.loA n (x :: xs) ↔ x.lo n ∧ D.loA n xs := by rw [D.loA]
mutual
theorem plain_lo {n : Nat} : ∀ {d : D}, d.plain = true → d.lo n
  | .non, _ => by unfold D.lo; trivial
  | .bl _, _ => by unfold D.lo; trivial
  | .int _, _ => by unfold D.lo; trivial
  | .str _, _ => by unfold D.lo; trivial
  | .tup xs, h => by unfold D.lo; exact plainA_lo (by unfold D.plain at h; exact h)
  | .lst xs, h => by unfold D.lo; exact plainA_lo (by unfold D.plain at h; exact h)
  | .scr xs, h => by unfold D.lo; exact plainA_lo (by unfold D.plain at h; exact h)
  | .ref i, h => by simp [D.plain] at h
  | .exc _ _ _ _, h => by simp [D.plain] at h
theorem plainA_lo {n : Nat} : ∀ {ds : List D}, D.plainA ds = true → D.loA n ds
  | [], _ => by unfold D.loA; trivial
  | x :: xs, h => by
    simp only [D.plainA, Bool.and_eq_true] at h
    unfold D.loA
    exact ⟨plain_lo h.1, plainA_lo h.2⟩
end
/-- the callee's level -/
theorem call_at {T : List FnD} {n j : Nat} {F : FnD} (h : T[j]? = some F) (ds : List D) (hd : Hd) : callN T (n + 1) j ds hd = runFn F (callN T n) ds hd := by
  show (match T[j]? with | some F => _ | none => _) = _
  rw [h]
end Ev

/-! Ev22: empty dicts, sorted of alike data. -/
namespace Ev
open PySem PySem.Spec PyProof.Rows L2 PySem.Calls
open PySem.W (Frag EachIs)
/-! ### the empty dict -/
def mDict0 : M := fun _ _ h => .ok (.ref h.length) (h ++ [.dict []])
section
variable {X : Cx} {CL : List XC} {W : WX} {c : Calls}
theorem g_dict0 {pos : Pos} : DE X CL W c (.Dict [] [] pos) mDict0 :=
  pimp pe_dnewK fun σ H Q ⟨r, t, h, Y, S, q⟩ p n => by
    refine q _ (r.add p) _ (Ext.push n) (Y.push n ⟨[], upd_same, .nil⟩) (.ref ?_)
    rw [← Y.len, List.getElem?_append_right (Nat.le_refl _)]; simp
/-- what a sorted value stands for -/
def Stands (K : Frag) (H : Hp) (r : Rho) (u : Value) (d : D) : Prop := ∃ v : V, RelV v u ∧ Rep K H r v d
theorem stands_of {K : Frag} {H : Hp} {r : Rho} : ∀ {vs : List V} {us : List Value} {ds : List D}, Vals vs us → RepA K H r vs ds → EachIs (Stands K H r) us ds
  | [], [], [], _, .nil => .nil
  | _ :: _, _ :: _, _ :: _, .cons h t, .cons k l => .cons ⟨_, h, k⟩ (stands_of t l)
theorem of_stands {K : Frag} {H : Hp} {r : Rho} : ∀ {us : List Value} {ds : List D}, EachIs (Stands K H r) us ds → ∃ vs, Vals vs us ∧ RepA K H r vs ds
  | _, _, .nil => ⟨[], .nil, .nil⟩
  | _, _, .cons ⟨v, h, k⟩ t => by
    obtain ⟨vs, h2, k2⟩ := of_stands t
    exact ⟨v :: vs, .cons h h2, .cons k k2⟩
theorem each_reads {K : Frag} {H : Hp} {r : Rho} {s : Shared} {X : Cx} {pins : List (Addr × Obj)} {σ : L2.St} (I : Inv X pins σ H s) (hK : K = X.K) : ∀ {vs : List V} {us : List Value} {ds : List D}, Vals vs us → RepA K H r vs ds → D.plainA ds = true → EachIs (fun u d => ∃ as, Reads s.heap u d.toP as) us ds
  | [], [], [], _, .nil, _ => .nil
  | _ :: _, _ :: _, _ :: _, .cons h t, .cons k l, p => by
    subst hK
    simp only [D.plainA, Bool.and_eq_true] at p
    exact .cons (Dp.reads I _ _ _ (k.dp p.1) h) (each_reads I rfl t l p.2)
end
end Ev

/-! Ev23: try with several clauses, each with a name or without. -/
namespace Ev
open PySem PySem.Spec PyProof.Rows L2 PySem.Calls
open PySem.W (Frag EachIs)
abbrev Sui := Addr → Value → Option Addr → TS
/-- how the named error's slot is emptied -/
abbrev Ends.un (D : Ends) (i : Nat) : Ends := { nx := fun σ' H' => D.nx (σ'.set i none) H', rt := D.rt, bk := fun σ' H' => D.bk (σ'.set i none) H', ct := fun σ' H' => D.ct (σ'.set i none) H' }
def wCl (K : Frag) (Wout : WX) (D : Ends) : List (Value × Option Nat × Sui) → WX
  | [] => Wout
  | (v, o, ts) :: r => fun cls d σ H => ∃ b, PySem.W.exmOne K cls v = some b ∧
      (b = true → ∀ a, H a = none → match o with
        | none => ts a cls d D σ H
        | some i => ts a cls d (Ends.un D i) (σ.set i (some (.ref a))) H) ∧
      (b = false → wCl K Wout D r cls d σ H)
abbrev SuiOk (X : Cx) (ss : List Stmt) (ts : Sui) : Prop := ∀ (a : Addr) (oe : Obj) (cls : Value) (d : Option Addr) (pn : List (Addr × Obj)), Zc cls d oe → (∃ vs, oe.data = .fields vs) → PSs (X.suite a ((a, oe) :: pn)) ss (ts a cls d)
inductive Cls (X : Cx) : List ExceptHandler → List (Value × Option Nat × Sui) → Prop
  | nil : Cls X [] []
  | bare {x : Str} {v : Value} {ts : Sui} {b₀ : Stmt} {ss : List Stmt} {p1 p2 : Pos} {hds : List ExceptHandler} {l : List (Value × Option Nat × Sui)} (nm : Names X x v) (ok : SuiOk X (b₀ :: ss) ts) (r : Cls X hds l) :
      Cls X (.ExceptHandler (some (.Name x p1)) none (b₀ :: ss) p2 :: hds) ((v, none, ts) :: l)
  | named {x n : Str} {i : Nat} {v : Value} {ts : Sui} {b₀ : Stmt} {ss : List Stmt} {p1 p2 : Pos} {hds : List ExceptHandler} {l : List (Value × Option Nat × Sui)} (nm : Names X x v) (hi : X.N[i]? = some n) (hln : X.env.kindOf n = some .local)
      (ok : SuiOk X (b₀ :: ss) ts) (r : Cls X hds l) : Cls X (.ExceptHandler (some (.Name x p1)) (some n) (b₀ :: ss) p2 :: hds) ((v, some i, ts) :: l)
section
variable {X : Cx}
theorem ps_tries {body : List Stmt} {h₀ : ExceptHandler} {hds : List ExceptHandler} {l : List (Value × Option Nat × Sui)} {pos : Pos} {tb : WX → TS} {Wout : WX} (stk : X.stack = X.env :: X.outer) (frm : X.env.frame = some X.env.locals) (ndp : X.N.Nodup) (tks : Takes X Wout)
    (bdy : ∀ (W : WX) (pn : List (Addr × Obj)) (xe : Value → Shared → Prop), Takes (X.tr pn xe) W → PassesOwn (model X.prog X.w) X.A X.env xe → PSs (X.tr pn xe) body (tb W))
    (cls_ : Cls X (h₀ :: hds) l) : PS X (.Try body (h₀ :: hds) [] [] pos) (fun D σ H => tb (wCl X.K Wout D l) D σ H) := by
  refine ⟨fun pins s σ H D inv0 want => ?_⟩
  have okI := inv0.ok
  have frs0 : X.A.frames = some (X.env :: X.outer) := by rw [okI.frames, stk]
  refine wpAny_Try_except ?_
  refine wpAny_mono ((bdy (wCl X.K Wout D l) (X.pn ++ pins) (fun e t1 => wpAny (model X.prog X.w) X.A (noteFrame e X.env) (fun _ t2 => wpAny (model X.prog X.w) X.A (setFlight e none) (fun _ t3 => wpAny (model X.prog X.w) X.A (handleBy e X.env (h₀ :: hds)) (SP X pins D) X.xe t3) X.xe t2) X.xe t1) (fun u t xx => ?_) PassesOwn.looking).run [] s σ H D (inv0.toTry _) want) (fun f t1 done => ?_) (fun e t1 he => he)
  · obtain ⟨a, B, sJ, pins2, σ2, H2, cl, dx, rfl, invB, nob, up1, sk, nota, osd, agr, wish⟩ := xx
    have invA : Inv X pins σ2 H2 sJ := invB.ofTry okI
    have sk2 : Sky B (X.env :: X.outer) a (Zc cl dx) X.env.locals t.heap := by rw [← stk]; exact sk
    show wpAny (model X.prog X.w) X.A (noteFrame (.ref a) X.env) _ _ _
    refine Sky.land Zc.steady frs0 frm sk2 fun g3 fly3 upg => ?_
    have invC : Inv X pins σ2 H2 { t with heap := g3 } := invA.landed nob fly3.1 (up1.trans upg) osd agr
    obtain ⟨ob3, vv3, get3, zc3, dat3⟩ := fly3.there
    have noFrame : a ∉ frs (X.env :: X.outer) := fun hm => by
      obtain ⟨_, o', e', hnf⟩ := (fly3.2.2.1).mem hm
      rw [get3] at e'; cases e'
      exact hnf _ dat3
    have noLoc : a ≠ X.env.locals := fun z => noFrame (List.mem_filterMap.mpr ⟨X.env, List.mem_cons_self, by rw [frm, z]⟩)
    have noFs : a ∉ X.fs := fun hm => by
      obtain ⟨e, he, q⟩ := List.mem_filterMap.mp hm
      exact noFrame (List.mem_filterMap.mpr ⟨e, List.mem_cons_of_mem _ he, q⟩)
    have invS := invC.suite get3 dat3 nota noLoc noFs
    have LT : PySem.W.Looks (model X.prog X.w) g3 (typeOf (.ref a)) cl := fun A Q E s k q => wpAny_typeOf_ref (k _ _ get3) (by rw [zc3.1]; exact q)
    have named : ∀ {x : Str} {v : Value} {p1 : Pos} {Q E : Value → Shared → Prop}, Names X x v → Q v { t with heap := g3 } → wpAny (model X.prog X.w) (X.A.mark (some (.ref a))) (eval (.Name x p1) X.env) Q E { t with heap := g3 } := fun nm q => by
      obtain ⟨hg, hdbg, hm | ⟨hm, hv, hnn⟩⟩ := nm
      · exact ld_glob (X := X.suite a ((a, ob3) :: (X.pn ++ pins))) invS hg hm q hdbg
      · exact ld_blt (X := X.suite a ((a, ob3) :: (X.pn ++ pins))) invS hg hm hv q hnn hdbg
    have walk : ∀ {hs2 : List ExceptHandler} {l2 : List (Value × Option Nat × Sui)}, Cls X hs2 l2 → wCl X.K Wout D l2 cl dx σ2 H2 → wpAny (model X.prog X.w) X.A (handleBy (.ref a) X.env hs2) (SP X pins D) X.xe { t with heap := g3 } := by
      intro hs2 l2 ck
      induction ck with
      | nil =>
        intro out
        refine wpAny_handleBy_nil ?_
        obtain ⟨_, _, _, o5, v5, T5, oT5, ts5, get5, zc5, dat5, first5, rest5⟩ := id fly3
        unfold PySem.passOn
        refine wpAny_bind (wpAny_field get5 dat5 first5 ?_)
        rw [if_neg (show ¬ ((Value.ref T5 == Value.none) = true) from by simp)]
        have gone : wpAny (model X.prog X.w) X.A (setFlight (.ref a) X.env.frame) (fun _ t4 => wpAny (model X.prog X.w) X.A (throw (.ref a) : Sem Flow) (SP X pins D) X.xe t4) X.xe { t with heap := g3 } := by
          rw [frm]
          refine HandSPX.setFlight_upZ fly3 fun g4 fly4 up4 => wpAny_throw (tks _ _ ?_)
          exact ⟨a, B, sJ, pins, σ2, H2, cl, dx, rfl, invA, nob, (up1.trans upg).trans up4, .inr (.inr (by rw [stk]; exact fly4)), nota, osd, agr, out⟩
        first
          | exact wpAny_bind (wpAny_pure (wpAny_bind gone))
          | exact wpAny_bind gone
      | @bare x v ts b₀ ss p1 p2 hs3 l3 nm sok r ih =>
        intro out
        obtain ⟨b, eb, yes, no⟩ := out
        refine wpAny_handleBy_cons (codeAny_handlers_test ?_) (by intro q; cases q)
        refine named nm ((PySem.W.exm_one (M := model X.prog X.w) invC.kIn LT eb).here ?_)
        cases b with
        | true =>
          refine codeAny_handlers_suite ?_
          refine HandSPX.lands_againZ fly3 fun g4 fly4 up4 => ?_
          have invD : Inv X pins σ2 H2 { t with heap := g4 } := invA.landed nob fly4.1 ((up1.trans upg).trans up4) osd agr
          obtain ⟨ob4, vv4, get4, zc4, dat4⟩ := fly4.there
          have invE := invD.suite get4 dat4 nota noLoc noFs
          refine wpAny_mono ((sok a ob4 cl dx (X.pn ++ pins) zc4 ⟨_, dat4⟩).run [] _ _ H2 _ invE (yes rfl a nota)) (fun f t6 fin_ => ?_) (fun _ _ z => False.elim z)
          cases f with
          | ret u => obtain ⟨v6, σ6, H6, S6, r6, q6⟩ := fin_; exact ⟨_, _, _, S6.unsuite okI, r6, q6⟩
          | next => obtain ⟨σ6, H6, S6, q6⟩ := fin_; exact ⟨_, _, S6.unsuite okI, q6⟩
          | brk => obtain ⟨σ6, H6, S6, q6⟩ := fin_; exact ⟨_, _, S6.unsuite okI, q6⟩
          | cont => obtain ⟨σ6, H6, S6, q6⟩ := fin_; exact ⟨_, _, S6.unsuite okI, q6⟩
        | false =>
          show wpAny _ X.A (handleBy (.ref a) X.env hs3) _ _ _
          exact ih (no rfl)
      | @named x n i v ts b₀ ss p1 p2 hs3 l3 nm hi hln sok r ih =>
        intro out
        obtain ⟨b, eb, yes, no⟩ := out
        refine wpAny_handleBy_cons (codeAny_handlers_test ?_) (by intro q; cases q)
        refine named nm ((PySem.W.exm_one (M := model X.prog X.w) invC.kIn LT eb).here ?_)
        cases b with
        | true =>
          refine codeAny_handlers_suite_as ?_
          refine HandSPX.lands_againZ fly3 fun g4 fly4 up4 => ?_
          have invD : Inv X pins σ2 H2 { t with heap := g4 } := invA.landed nob fly4.1 ((up1.trans upg).trans up4) osd agr
          obtain ⟨ob4, vv4, get4, zc4, dat4⟩ := fly4.there
          have invE := invD.suite get4 dat4 nota noLoc noFs
          have hloc : Loc X.env.scope n := .inl hln
          refine store_ok (X := X.suite a ((a, ob4) :: (X.pn ++ pins))) (v := .ref a) invE ndp hi hloc rfl (fun t5 invF => ?_) (.inr hln)
          refine wpAny_mono ((sok a ob4 cl dx (X.pn ++ pins) zc4 ⟨_, dat4⟩).run [] t5 _ H2 _ invF (yes rfl a nota)) (fun f t6 fin_ => ?_) (fun _ _ z => False.elim z)
          have wiped : ∀ {σ6 : L2.St} {H6 : Hp} {Q : Shared → Prop}, Inv (X.suite a ((a, ob4) :: (X.pn ++ pins))) [] σ6 H6 t6 → (∀ t7, Inv X pins (σ6.set i none) H6 t7 → Q t7) →
              wpAny (model X.prog X.w) X.A (do bindName X.env n .none; unbindBehindTheSuite X.env n p2) (fun _ t7 => Q t7) X.xe t6 := fun S6 hq => gone_ok (S6.unsuite okI) ndp hi hln hq
          cases f with
          | ret u => obtain ⟨v6, σ6, H6, S6, r6, q6⟩ := fin_; exact wiped S6 fun t7 J7 => ⟨_, _, _, J7, r6, q6⟩
          | next => obtain ⟨σ6, H6, S6, q6⟩ := fin_; exact wiped S6 fun t7 J7 => ⟨_, _, J7, q6⟩
          | brk => obtain ⟨σ6, H6, S6, q6⟩ := fin_; exact wiped S6 fun t7 J7 => ⟨_, _, J7, q6⟩
          | cont => obtain ⟨σ6, H6, S6, q6⟩ := fin_; exact wiped S6 fun t7 J7 => ⟨_, _, J7, q6⟩
        | false =>
          show wpAny _ X.A (handleBy (.ref a) X.env hs3) _ _ _
          exact ih (no rfl)
    exact walk cls_ wish
  · cases f with
    | ret u => obtain ⟨v, σ2, H2, J2, r, q⟩ := done; exact ⟨v, σ2, H2, J2.ofTry okI, r, q⟩
    | next => obtain ⟨σ2, H2, J2, q⟩ := done; exact wpAny_execs_nil ⟨σ2, H2, J2.ofTry okI, q⟩
    | brk => obtain ⟨σ2, H2, J2, q⟩ := done; exact ⟨σ2, H2, J2.ofTry okI, q⟩
    | cont => obtain ⟨σ2, H2, J2, q⟩ := done; exact ⟨σ2, H2, J2.ofTry okI, q⟩
end
/-! ### on data -/
structure Cl where
  cs : Nat → Option Bool
  nm : Option Nat
  ms : Addr → Option Addr → Nat → MS
noncomputable def onX (nmf : Nat → List Str) (c : Calls) : List Cl → Nat → List D → Tau → Hd → SR
  | [], k, fs, t, h => .exn k fs t h
  | cl :: r, k, fs, t, h => match cl.cs k with
    | none => .stuck
    | some false => onX nmf c r k fs t h
    | some true => match cl.nm with
      | none => (cl.ms 0 none k c t h).noX
      | some i => uni fun a dd => ((cl.ms a dd k c (t.set i (some (.exc a dd (nmf k) fs))) h).noX).wipe i
noncomputable def sTries (nmf : Nat → List Str) (body : MS) (l : List Cl) : MS := fun c t h => match body c t h with
  | .exn k fs t1 h1 => onX nmf c l k fs t1 h1
  | r => r
inductive DCls (X : Cx) (CL : List XC) (c : Calls) (nmf : Nat → List Str) : List ExceptHandler → List Cl → Prop
  | nil : DCls X CL c nmf [] []
  | bare {x : Str} {v : Value} {cs : Nat → Option Bool} {ms : MS} {b₀ : Stmt} {ss : List Stmt} {p1 p2 : Pos} {hds : List ExceptHandler} {l : List Cl} (nm : Names X x v)
      (hcs : ∀ k y b, CL[k]? = some y → cs k = some b → PySem.W.exmOne X.K (.ref y.addr) v = some b)
      (hsu : ∀ (a : Addr) (oe : Obj) (pn : List (Addr × Obj)), DSs (X.suite a ((a, oe) :: pn)) CL W0 c (b₀ :: ss) ms) (r : DCls X CL c nmf hds l) :
      DCls X CL c nmf (.ExceptHandler (some (.Name x p1)) none (b₀ :: ss) p2 :: hds) (⟨cs, none, fun _ _ _ => ms⟩ :: l)
  | named {x n : Str} {i : Nat} {v : Value} {cs : Nat → Option Bool} {ms : Addr → Option Addr → Nat → MS} {b₀ : Stmt} {ss : List Stmt} {p1 p2 : Pos} {hds : List ExceptHandler} {l : List Cl} (hi : X.N[i]? = some n) (hln : X.env.kindOf n = some .local) (nm : Names X x v)
      (hcs : ∀ k y b, CL[k]? = some y → cs k = some b → PySem.W.exmOne X.K (.ref y.addr) v = some b)
      (hsu : ∀ (a : Addr) (oe : Obj) (d : Option Addr) (pn : List (Addr × Obj)) (k : Nat) (y : XC), CL[k]? = some y → cs k = some true → Zc (.ref y.addr) d oe → (∃ vs, oe.data = .fields vs) → DSs (X.suite a ((a, oe) :: pn)) CL W0 c (b₀ :: ss) (ms a d k)) (r : DCls X CL c nmf hds l) :
      DCls X CL c nmf (.ExceptHandler (some (.Name x p1)) (some n) (b₀ :: ss) p2 :: hds) (⟨cs, some i, ms⟩ :: l)
section
variable {X : Cx} {CL : List XC} {W : WX} {c : Calls} {nmf : Nat → List Str}
theorem dcls_ok (hnm : ∀ k y, CL[k]? = some y → nmf k = y.fields) {hds : List ExceptHandler} {l : List Cl} (dc : DCls X CL c nmf hds l) :
    ∃ l' : List (Value × Option Nat × Sui), Cls X hds l' ∧ ∀ (E : Ends) (W : WX) (k : Nat) (fs : List D) (cls : Value) (dd : Option Addr) (σ : L2.St) (r : Rho) (t : Tau) (h : Hd) (H : Hp), R X.K r h H → Slots X.K H r σ t → ExR X.K CL H r k fs cls dd →
      rdS X.K CL W r H E (onX nmf c l k fs t h) → wCl X.K W E l' cls dd σ H := by
  induction dc with
  | nil => exact ⟨[], .nil, fun E W k fs cls dd σ r t h H Y S ex q => q cls dd σ r H (Ext.refl _ _) Y S ex⟩
  | @bare x v cs ms b₀ ss p1 p2 hds l nm hcs hsu r ih =>
    obtain ⟨l', ck, go⟩ := ih
    refine ⟨(v, none, fun _ _ _ => rs X.K CL W0 c ms) :: l', .bare nm (fun a oe cls d pn _ _ => hsu a oe pn) ck, fun E W k fs cls dd σ r t h H Y S ex q => ?_⟩
    obtain ⟨y, vs, hy, hcls, ra, hl, hd⟩ := id ex
    unfold onX at q
    cases hk : cs k with
    | none => simp only [hk] at q; exact q.elim
    | some b =>
      refine ⟨b, by rw [hcls]; exact hcs k y b hy hk, fun hb a _ => ?_, fun hb => ?_⟩
      · subst hb
        simp only [hk] at q
        exact ⟨r, t, h, Y, S, noX_rd q⟩
      · subst hb
        simp only [hk] at q
        exact go E W k fs cls dd σ r t h H Y S ex q
  | @named x n i v cs ms b₀ ss p1 p2 hds l hi hln nm hcs hsu r ih =>
    obtain ⟨l', ck, go⟩ := ih
    refine ⟨(v, some i, fun a cls d E σ H => ∃ k y, CL[k]? = some y ∧ cs k = some true ∧ cls = .ref y.addr ∧ rs X.K CL W0 c (ms a d k) E σ H) :: l',
      .named nm hi hln (fun a oe cls d pn hz hfd => ⟨fun pins s σ H D I ⟨k, y, hy, hk, hcl, q⟩ => (hsu a oe d pn k y hy hk (by rw [← hcl]; exact hz) hfd).run pins s σ H D I q⟩) ck, fun E W k fs cls dd σ r t h H Y S ex q => ?_⟩
    obtain ⟨y, vs, hy, hcls, ra, hl, hd⟩ := id ex
    unfold onX at q
    cases hk : cs k with
    | none => simp only [hk] at q; exact q.elim
    | some b =>
      refine ⟨b, by rw [hcls]; exact hcs k y b hy hk, fun hb a _ => ?_, fun hb => ?_⟩
      · subst hb
        simp only [hk] at q
        have hnm' := hnm k y hy
        have rx : Rep X.K H r (.ref a) (.exc a dd (nmf k) fs) := by
          refine .exc (vs := vs) ?_ (fun z => ?_) (by rw [hnm', ra.len, hl]) ra
          · rw [hnm']
            exact hd.imp id (fun z => z.1)
          · rcases hd with ⟨d, e, _⟩ | ⟨_, e⟩
            · rw [z] at e; cases e
            · exact e
        refine ⟨k, y, hy, hk, hcls, r, _, h, Y, S.set i rx, wipe_rd (W := W) ?_⟩
        have nst : uni (fun a dd => ((ms a dd k c (t.set i (some (.exc a dd (nmf k) fs))) h).noX).wipe i) ≠ .stuck := fun z => by rw [z] at q; exact q
        rw [uni_all nst a dd] at q
        cases e2 : ms a dd k c (t.set i (some (.exc a dd (nmf k) fs))) h with
        | exn _ _ _ _ => rw [e2] at q; exact q.elim
        | stuck => rw [e2] at q; exact q
        | nx _ _ => rw [e2] at q; exact q
        | rt _ _ => rw [e2] at q; exact q
        | bk _ _ => rw [e2] at q; exact q
        | ct _ _ => rw [e2] at q; exact q
      · subst hb
        simp only [hk] at q
        exact go E W k fs cls dd σ r t h H Y S ex q
theorem ds_tries {body : List Stmt} {mb : MS} {h₀ : ExceptHandler} {hds : List ExceptHandler} {l : List Cl} {pos : Pos} (hs : X.stack = X.env :: X.outer) (hf : X.env.frame = some X.env.locals) (hN : X.N.Nodup) (tk : Takes X W) (hnm : ∀ k y, CL[k]? = some y → nmf k = y.fields)
    (hb : ∀ (W : WX) (pn : List (Addr × Obj)) (xe : Value → Shared → Prop), Takes (X.tr pn xe) W → PassesOwn (model X.prog X.w) X.A X.env xe → DSs (X.tr pn xe) CL W c body mb)
    (dc : DCls X CL c nmf (h₀ :: hds) l) : DS X CL W c (.Try body (h₀ :: hds) [] [] pos) (sTries nmf mb l) := by
  obtain ⟨l', ck, go⟩ := dcls_ok hnm dc
  refine psimp (ps_tries (tb := fun W => rs X.K CL W c mb) hs hf hN tk hb ck) fun E σ H ⟨r, t, h, Y, S, q⟩ => ⟨r, t, h, Y, S, ?_⟩
  unfold sTries at q
  cases e : mb c t h with
  | nx t h => rw [e] at q; exact q
  | rt d h => rw [e] at q; exact q
  | bk t h => rw [e] at q; exact q
  | ct t h => rw [e] at q; exact q
  | stuck => rw [e] at q; exact q
  | exn k fs t1 h1 =>
    rw [e] at q
    intro cls dd σ' r' H' x' Y' S' ex
    exact go E W k fs cls dd σ' r' t1 h1 H' Y' S' ex (q.ext x')
end
end Ev

/-! Ev24: sorted of tuples that begin with texts, each two of which can be compared. -/
namespace Ev
open PySem PySem.Spec PyProof.Rows L2 PySem.Calls PySem.SeqAt
open PySem.W (Frag EachIs keyToks keyToksAll dataLt)
mutual
/-- x < y is told -/
def cmpb : PyData → PyData → Bool
  | .bool _, .bool _ => true
  | .int _, .int _ => true
  | .str _, .str _ => true
  | .tuple xs, .tuple ys => cmpbA xs ys
  | _, _ => false
def cmpbA : List PyData → List PyData → Bool
  | x :: xs, y :: ys => if PyData.eqv x y then cmpbA xs ys else cmpb x y
  | [], _ => true
  | _ :: _, [] => true
end
theorem cmpbA_cons {x y : PyData} {xs ys : List PyData} : cmpbA (x :: xs) (y :: ys) = if PyData.eqv x y then cmpbA xs ys else cmpb x y := by rw [cmpbA]
mutual
theorem eqv_toks : ∀ x y : PyData, PyData.eqv x y = true → keyToks x = keyToks y
  | .none, y, h => by cases y <;> simp [PyData.eqv] at h <;> simp [keyToks]
  | .bool a, y, h => by
    cases y <;> simp [PyData.eqv] at h
    · subst h; rfl
    · subst h; cases a <;> simp [keyToks]
  | .int a, y, h => by
    cases y <;> simp [PyData.eqv] at h
    · subst h
      rename_i b
      cases b <;> simp [keyToks]
    · subst h; rfl
  | .str a, y, h => by cases y <;> simp [PyData.eqv] at h; subst h; rfl
  | .list xs, y, h => by
    cases y <;> simp [PyData.eqv] at h
    simp only [keyToks]
    exact eqvA_toks _ _ h
  | .tuple xs, y, h => by
    cases y <;> simp [PyData.eqv] at h
    simp only [keyToks]
    exact eqvA_toks _ _ h
  | .dict xs, y, h => by cases y <;> simp [PyData.eqv] at h <;> simp [keyToks]
theorem eqvA_toks : ∀ xs ys : List PyData, PyData.eqvAll xs ys = true → keyToksAll xs = keyToksAll ys
  | [], [], _ => rfl
  | [], _ :: _, h => by simp [PyData.eqvAll] at h
  | _ :: _, [], h => by simp [PyData.eqvAll] at h
  | x :: xs, y :: ys, h => by
    rw [PySem.W.eqv_all_cons, Bool.and_eq_true] at h
    rw [PySem.W.toks_all_cons, PySem.W.toks_all_cons, eqv_toks x y h.1, eqvA_toks xs ys h.2]
end
mutual
/-- where two differ, the signs say so, whatever follows -/
theorem ne_toks : ∀ x y : PyData, cmpb x y = true → PyData.eqv x y = false → ∀ l m, lexLt itemOrd (keyToks x ++ l) (keyToks y ++ m) = lexLt itemOrd (keyToks x) (keyToks y)
  | .none, y, h, _, _, _ => by cases y <;> simp [cmpb] at h
  | .bool a, y, h, e, l, m => by
    cases y <;> simp [cmpb] at h
    rename_i b
    have hne : a ≠ b := fun q => by subst q; simp [PyData.eqv] at e
    simp only [keyToks, List.cons_append, List.nil_append]
    refine PySem.W.lex_atom (fun q => hne ?_) l m
    have q' := Sum.inl.inj q
    cases a <;> cases b <;> simp_all
  | .int a, y, h, e, l, m => by
    cases y <;> simp [cmpb] at h
    rename_i b
    have hne : a ≠ b := fun q => by subst q; simp [PyData.eqv] at e
    simp only [keyToks, List.cons_append, List.nil_append]
    exact PySem.W.lex_atom (fun q => hne (Sum.inl.inj q)) l m
  | .str a, y, h, e, l, m => by
    cases y <;> simp [cmpb] at h
    rename_i b
    have hne : a ≠ b := fun q => by subst q; simp [PyData.eqv] at e
    simp only [keyToks, List.cons_append, List.nil_append]
    exact PySem.W.lex_atom (fun q => hne (PySem.W.str_of_cps (Sum.inr.inj q))) l m
  | .list xs, y, h, _, _, _ => by cases y <;> simp [cmpb] at h
  | .tuple xs, y, h, e, l, m => by
    cases y <;> simp [cmpb] at h
    simp only [PyData.eqv] at e
    simp only [keyToks]
    exact neA_toks _ _ h e l m
  | .dict _, y, h, _, _, _ => by cases y <;> simp [cmpb] at h
theorem neA_toks : ∀ xs ys : List PyData, cmpbA xs ys = true → PyData.eqvAll xs ys = false → ∀ l m, lexLt itemOrd (keyToksAll xs ++ l) (keyToksAll ys ++ m) = lexLt itemOrd (keyToksAll xs) (keyToksAll ys)
  | [], [], _, e, _, _ => by simp [PyData.eqvAll] at e
  | [], y :: ys, _, _, l, m => by
    simp only [keyToksAll, List.cons_append, List.nil_append]
    exact (PySem.W.lex_atom (by simp) _ _).trans (PySem.W.lex_atom (by simp) _ _).symm
  | x :: xs, [], _, _, l, m => by
    simp only [keyToksAll, List.cons_append, List.nil_append]
    exact (PySem.W.lex_atom (by simp) _ _).trans (PySem.W.lex_atom (by simp) _ _).symm
  | x :: xs, y :: ys, h, e, l, m => by
    rw [PySem.W.eqv_all_cons] at e
    rw [cmpbA_cons] at h
    rw [PySem.W.toks_all_cons, PySem.W.toks_all_cons]
    simp only [List.cons_append, List.append_assoc]
    cases hx : PyData.eqv x y with
    | true =>
      rw [hx, Bool.true_and] at e
      rw [hx, if_pos rfl] at h
      rw [eqv_toks x y hx]
      have b2 := neA_toks xs ys h e l m
      exact (lex_self (O := itemOrd) _ _ _).trans ((PySem.W.lex_pre _ _ _).trans (b2.trans ((PySem.W.lex_pre _ _ _).symm.trans (lex_self (O := itemOrd) _ _ _).symm)))
    | false =>
      rw [hx, if_neg (by decide)] at h
      have a2 := ne_toks x y h hx
      exact (lex_self (O := itemOrd) _ _ _).trans ((a2 _ _).trans ((a2 _ _).symm.trans (lex_self (O := itemOrd) _ _ _).symm))
end
theorem all_yes {x y : PyData} {xs ys : List PyData} (e : PyData.eqv x y = true) : lexLt itemOrd (keyToksAll (x :: xs)) (keyToksAll (y :: ys)) = lexLt itemOrd (keyToksAll xs) (keyToksAll ys) := by
  rw [PySem.W.toks_all_cons, PySem.W.toks_all_cons, eqv_toks x y e]
  exact (lex_self (O := itemOrd) _ _ _).trans (PySem.W.lex_pre _ _ _)
theorem all_no {x y : PyData} {xs ys : List PyData} (h : cmpb x y = true) (e : PyData.eqv x y = false) : lexLt itemOrd (keyToksAll (x :: xs)) (keyToksAll (y :: ys)) = dataLt x y := by
  rw [PySem.W.toks_all_cons, PySem.W.toks_all_cons]
  exact (lex_self (O := itemOrd) _ _ _).trans (ne_toks x y h e _ _)
open PySem.W (firstLt_map KatLex kat_nil kat_cons kat_yes kat_no)
theorem first_toks : ∀ (xs ys : List PyData), cmpbA xs ys = true →
    firstLt (pairEq xs ys) (fun j => dataLt (xs.getD j .none) (ys.getD j .none)) (decide (xs.length < ys.length)) (List.range (min xs.length ys.length)) = lexLt itemOrd (keyToksAll xs) (keyToksAll ys)
  | [], [], _ => by simp [firstLt, keyToksAll, lex_irrefl]
  | [], y :: ys, _ => by
    rw [PySem.W.toks_all_cons]
    simp only [keyToksAll]
    rw [lex_diff (O := itemOrd) (by simp)]
    simp [firstLt, itemLt]
  | x :: xs, [], _ => by
    rw [PySem.W.toks_all_cons]
    simp only [keyToksAll]
    rw [lex_diff (O := itemOrd) (by simp)]
    simp [firstLt, itemLt]
  | x :: xs, y :: ys, h => by
    rw [cmpbA_cons] at h
    have em : min (x :: xs).length (y :: ys).length = min xs.length ys.length + 1 := by
      rw [List.length_cons, List.length_cons]; omega
    have ed : decide ((x :: xs).length < (y :: ys).length) = decide (xs.length < ys.length) := by
      rw [List.length_cons, List.length_cons]; exact decide_eq_decide.mpr (by omega)
    rw [em, ed, List.range_succ_eq_map]
    cases hx : PyData.eqv x y with
    | true =>
      rw [hx, if_pos rfl] at h
      rw [firstLt_yes (show pairEq (x :: xs) (y :: ys) 0 = true from hx), firstLt_map, all_yes hx, ← first_toks xs ys h]
      rfl
    | false =>
      rw [hx, if_neg (by decide)] at h
      rw [firstLt_no (show pairEq (x :: xs) (y :: ys) 0 = false from hx), all_no h hx]
      rfl
section
open AutoSeq1 (wpAny_loadPart')
open MeetsSeq MeetsSeq2 MeetsSeq3 SeqRoads2
-- as the kit's rule for tuples, but only the first place that differs must have an order
theorem tup_first (l b : Addr) (us ws : Array Value) (n1 n2 : Nat) (d1 d2 : Option Addr) (sl1 sl2 : Array (Option Value)) (e r : Nat → Bool) :
    Meets (Builtin.«tuple.__lt__» ⟨[.ref l, .ref b], []⟩)
      (fun A R s => s.heap.get? l = some { cls := .type "tuple", dict := d1, data := .seq us n1, slots := sl1 } ∧ s.heap.get? b = some { cls := .type "tuple", dict := d2, data := .seq ws n2, slots := sl2 } ∧
        (∀ j (h1 : j < us.size) (h2 : j < ws.size), EqAt A.in1 s us[j] ws[j] (e j)) ∧ (∀ j (h1 : j < us.size) (h2 : j < ws.size), (∀ m, m < j → e m = true) → e j = false → RcLt A.in1 s us[j] ws[j] (r j)) ∧
        R (.ok (.ret (.bool (firstLt e r (decide (us.size < ws.size)) (List.range (min us.size ws.size)))))) s) :=
  .of_wp fun prog w A R s h => by
    obtain ⟨hp, g, d, tk, os⟩ := s; obtain ⟨hl, hb, he, hr, h⟩ := h
    have f2 := AutoSeq1.sub_tuple_tuple
    have hZ : (us.toList.zip ws.toList).length = min us.size ws.size := by simp
    wp_walk using wpAny_loadPart' hl, wpAny_loadPart' hb, wpAny_forIn_list _ (fun rest b s' => b.1 = none ∧ s' = ⟨hp, g, d, tk, os⟩ ∧ ∃ i, rest = (us.toList.zip ws.toList).drop i ∧ (∀ m, m < i → e m = true) ∧
      R (.ok (.ret (.bool (firstLt e r (decide (us.size < ws.size)) ((List.range (min us.size ws.size)).drop i))))) ⟨hp, g, d, tk, os⟩) _
    case turn =>
      rintro ⟨y, x⟩ rest b s' ⟨hb', rfl, i, hz, all_, hR⟩
      have hlt : i < (us.toList.zip ws.toList).length := by
        rcases Nat.lt_or_ge i (us.toList.zip ws.toList).length with h' | h'
        · exact h'
        · rw [List.drop_of_length_le h'] at hz; cases hz
      have hm : i < min us.size ws.size := hZ ▸ hlt
      have h1 : i < us.size := Nat.lt_of_lt_of_le hm (Nat.min_le_left _ _)
      have h2 : i < ws.size := Nat.lt_of_lt_of_le hm (Nat.min_le_right _ _)
      rw [List.drop_eq_getElem_cons hlt] at hz
      injection hz with hyx hrest
      have hy : y = us[i] := by have := congrArg Prod.fst hyx; simpa using this
      have hx : x = ws[i] := by have := congrArg Prod.snd hyx; simpa using this
      subst hy hx
      have hd : (List.range (min us.size ws.size)).drop i = i :: (List.range (min us.size ws.size)).drop (i + 1) := by simp [List.drop_eq_getElem_cons, hm]
      rw [hd] at hR
      refine wpAny_bind (he i h1 h2 prog w _ _ ?_)
      cases hy : e i with
      | true =>
        rw [firstLt_yes hy] at hR
        wp_walk
        exact ⟨rfl, rfl, i + 1, hrest, fun m hm' => by rcases Nat.lt_succ_iff_lt_or_eq.mp hm' with q | rfl; exact all_ m q; exact hy, hR⟩
      | false =>
        rw [firstLt_no hy] at hR
        have hrr := hr i h1 h2 all_ hy prog w
        generalize richCompare CmpOp.Lt us[i] ws[i] = X at hrr ⊢
        wp_walk
        refine hrr _ _ ?_
        wp_walk
        exact ⟨_, rfl, hR⟩
    case fin =>
      rintro ⟨b1, b2⟩ s' ⟨hb', rfl, i, hz, _, hR⟩
      simp only at hb'
      subst hb'
      have hge : min us.size ws.size ≤ i := by
        rcases Nat.lt_or_ge i (us.toList.zip ws.toList).length with h' | h'
        · rw [List.drop_eq_getElem_cons h'] at hz; cases hz
        · exact hZ ▸ h'
      rw [List.drop_of_length_le (by simpa using hge)] at hR
      wp_walk
      exact ⟨_, rfl, by simpa [Builtin.Tuple.tupleCompareSizes, firstLt] using hR⟩
    case h =>
      exact ⟨rfl, rfl, 0, rfl, fun m hm => absurd hm (Nat.not_lt_zero _), by simpa using h⟩
theorem lt_tuples {A : Around} {s : Shared} {l b : Addr} {us ws : Array Value} {e r : Nat → Bool} (hl : s.heap.IsTuple l us) (hb : s.heap.IsTuple b ws) (hu : A.units < cLine) (he : ∀ j (h1 : j < us.size) (h2 : j < ws.size), EqAt A.in1 s us[j] ws[j] (e j))
    (hr : ∀ j (h1 : j < us.size) (h2 : j < ws.size), (∀ m, m < j → e m = true) → e j = false → RcLt A.in1 s us[j] ws[j] (r j)) : RcLt A s (.ref l) (.ref b) (firstLt e r (decide (us.size < ws.size)) (List.range (min us.size ws.size))) := fun prog w E Q h => by
  obtain ⟨⟨c1, d1, t1, sl1⟩, ho, hc, n1, hd⟩ := id hl
  obtain ⟨⟨c2, d2, t2, sl2⟩, ho2, hc2, n2, hd2⟩ := id hb
  simp only at hc hd hc2 hd2
  subst hc hd hc2 hd2
  exact richCompare_meets_room (op := .Lt) ⟨_, ho, rfl⟩ ⟨_, ho2, rfl⟩ F.slot_tuple_lt F.entry_tuple_lt (F.args_tuple_lt_2 _ _) (tup_first l b us ws n1 n2 d1 d2 sl1 sl2 e r)
    ⟨ho, ho2, he, hr, show Value.bool _ ≠ Value.notImplemented ∧ Q (.bool _) s from ⟨(fun x => nomatch x), h⟩⟩ hu
end
theorem first_at {xs ys : List PyData} (h : cmpbA xs ys = true) : ∀ j, j < xs.length → j < ys.length → (∀ m, m < j → pairEq xs ys m = true) → pairEq xs ys j = false → cmpb (xs.getD j .none) (ys.getD j .none) = true := by
  induction xs generalizing ys with
  | nil => intro j h1; simp at h1
  | cons x xs ih =>
    cases ys with
    | nil => intro j _ h2; simp at h2
    | cons y ys =>
      rw [cmpbA_cons] at h
      intro j h1 h2 all_ hj
      cases j with
      | zero =>
        have hx : PyData.eqv x y = false := hj
        rw [hx, if_neg (by decide)] at h
        exact h
      | succ j =>
        have hx : PyData.eqv x y = true := all_ 0 (Nat.succ_pos j)
        rw [hx, if_pos rfl] at h
        exact ih h j (by simpa using h1) (by simpa using h2) (fun m hm => all_ (m + 1) (Nat.succ_lt_succ hm)) hj
mutual
theorem rcLt_cmpb : ∀ (da db : PyData) (A : Around) (s : Shared) (a b : Value) (as bs : List Addr), Reads s.heap a da as → Reads s.heap b db bs → da.canLay0 = true → db.canLay0 = true → cmpb da db = true → A.units + min da.depth db.depth < cLine → RcLt A s a b (dataLt da db)
  | .none, db, _, _, _, _, _, _, _, _, _, _, h, _ => by cases db <;> simp [cmpb] at h
  | .dict _, db, _, _, _, _, _, _, _, _, _, _, h, _ => by cases db <;> simp [cmpb] at h
  | .list _, db, _, _, _, _, _, _, _, _, _, _, h, _ => by cases db <;> simp [cmpb] at h
  | .bool x, db, A, s, a, b, as, bs, ra, rb, _, _, h, _ => by
    cases db <;> simp [cmpb] at h
    cases ra; cases rb
    intro prog w E Q hq
    rw [PySem.W.dataLt_bool] at hq
    exact lt_bool hq
  | .int x, db, A, s, a, b, as, bs, ra, rb, _, _, h, _ => by
    cases db <;> simp [cmpb] at h
    cases ra; cases rb
    intro prog w E Q hq
    rw [PySem.W.dataLt_int] at hq
    exact P.lt_int hq
  | .str x, db, A, s, a, b, as, bs, ra, rb, _, _, h, _ => by
    cases db <;> simp [cmpb] at h
    cases ra; cases rb
    intro prog w E Q hq
    rw [PySem.W.dataLt_str] at hq
    exact P.lt_str hq
  | .tuple xs, db, A, s, a, b, as, bs, ra, rb, la, lb, h, hu => by
    cases db <;> simp [cmpb] at h
    rename_i ys
    have la' : PyData.canLayAll0 xs = true := by simpa [PyData.canLay0] using la
    have lb' : PyData.canLayAll0 ys = true := by simpa [PyData.canLay0] using lb
    cases ra with
    | @tuple l o vs n _ as₁ h1 h2 h3 h4 =>
      cases rb with
      | @tuple l' o' vs' n' _ bs₁ k1 k2 k3 k4 =>
        have n1 : vs.size = xs.length := by simpa using ReadsAll.length _ _ _ h4
        have n2 : vs'.size = ys.length := by simpa using ReadsAll.length _ _ _ k4
        rw [PySem.W.dataLt_tuple, ← first_toks xs ys h, ← n1, ← n2]
        refine lt_tuples ⟨_, h1, h2, _, h3⟩ ⟨_, k1, k2, _, k3⟩ (room_here hu) (fun j j1 j2 => ?_) fun j j1 j2 all_ hj => ?_
        · exact eqAt_readsAll xs ys A.in1 s vs.toList vs'.toList _ _ h4 k4 la' lb' (SeqAt.room_in hu) j (by simpa using j1) (by simpa using j2)
        · have hc := first_at h j (by omega) (by omega) all_ hj
          exact rcLt_cmpbA xs ys A.in1 s vs.toList vs'.toList _ _ h4 k4 la' lb' (SeqAt.room_in hu) j (by simpa using j1) (by simpa using j2) hc
theorem rcLt_cmpbA : ∀ (xs ys : List PyData) (A : Around) (s : Shared) (vs ws : List Value) (as bs : List Addr), ReadsAll s.heap vs xs as → ReadsAll s.heap ws ys bs → PyData.canLayAll0 xs = true → PyData.canLayAll0 ys = true →
    A.units + min (PyData.depthAll xs) (PyData.depthAll ys) < cLine → ∀ j (h1 : j < vs.length) (h2 : j < ws.length), cmpb (xs.getD j .none) (ys.getD j .none) = true → RcLt A s vs[j] ws[j] (dataLt (xs.getD j .none) (ys.getD j .none))
  | [], _, _, _, _, _, _, _, ra, _, _, _, _, j, h1, _, _ => by cases ra; exact absurd h1 (Nat.not_lt_zero _)
  | _ :: _, [], _, _, _, _, _, _, _, rb, _, _, _, j, _, h2, _ => by cases rb; exact absurd h2 (Nat.not_lt_zero _)
  | x :: xs, y :: ys, A, s, _, _, _, _, ra, rb, la, lb, hu, j, h1, h2, hc => by
    simp only [PyData.canLayAll0, Bool.and_eq_true] at la lb
    cases ra with
    | cons r rs =>
      cases rb with
      | cons r' rs' =>
        cases j with
        | zero => exact rcLt_cmpb x y A s _ _ _ _ r r' la.1 lb.1 hc (room_head hu)
        | succ j => exact rcLt_cmpbA xs ys A s _ _ _ _ rs rs' la.2 lb.2 (room_tail hu) j (Nat.lt_of_succ_lt_succ h1) (Nat.lt_of_succ_lt_succ h2) hc
end
/-! as sorting compares -/
section
variable {prog : Program} {w : World} {A : Around} {E : Value → Shared → Prop} {s : Shared}
theorem katLex_cmpb {fin : Bool} {Q : Bool → Shared → Prop} : ∀ (xs ys : List PyData) (i : Nat) (vs ws : List Value) (as bs : List Addr), ReadsAll s.heap vs xs as → ReadsAll s.heap ws ys bs → PyData.canLayAll0 xs = true → PyData.canLayAll0 ys = true → cmpbA xs ys = true →
    A.units + min (PyData.depthAll xs) (PyData.depthAll ys) < cLine → (i = 0 → ∃ p q r t, xs = .str p :: r ∧ ys = .str q :: t) → fin = decide (xs.length < ys.length) → Q (lexLt itemOrd (keyToksAll xs) (keyToksAll ys)) s → KatLex prog w A true fin Q (vs.zip ws) i s
  | [], [], i, _, _, _, _, ra, rb, _, _, _, _, _, hf, hq => by
    cases ra; cases rb
    have e : fin = false := by rw [hf]; rfl
    subst e
    rw [lex_irrefl] at hq
    exact kat_nil hq
  | [], y :: ys, i, _, _, _, _, ra, rb, _, _, _, _, _, hf, hq => by
    cases ra
    have e : fin = true := by rw [hf]; exact decide_eq_true (Nat.succ_pos _)
    subst e
    rw [PySem.W.toks_all_cons] at hq
    simp only [keyToksAll] at hq
    rw [lex_diff (O := itemOrd) (by simp)] at hq
    rw [List.zip_nil_left]
    exact kat_nil (by simpa [itemLt] using hq)
  | x :: xs, [], i, _, _, _, _, ra, rb, _, _, _, _, _, hf, hq => by
    cases rb
    have e : fin = false := by rw [hf]; exact decide_eq_false (Nat.not_lt_zero _)
    subst e
    rw [PySem.W.toks_all_cons] at hq
    simp only [keyToksAll] at hq
    rw [lex_diff (O := itemOrd) (by simp)] at hq
    rw [List.zip_nil_right]
    exact kat_nil (by simpa [itemLt] using hq)
  | x :: xs, y :: ys, i, _, _, _, _, ra, rb, la, lb, h, hu, h0, hf, hq => by
    simp only [PyData.canLayAll0, Bool.and_eq_true] at la lb
    rw [cmpbA_cons] at h
    have hf' : fin = decide (xs.length < ys.length) := by
      rw [hf]; simp only [List.length_cons, Nat.add_lt_add_iff_right]
    cases ra with
    | cons r rs =>
      cases rb with
      | cons r' rs' =>
        rw [List.zip_cons_cons]
        refine kat_cons (eqAt_reads x y A s _ _ _ _ r r' la.1 lb.1 (room_head hu) prog w _ _ ?_)
        cases hx : PyData.eqv x y with
        | true =>
          rw [hx, if_pos rfl] at h
          rw [all_yes hx] at hq
          exact kat_yes (katLex_cmpb xs ys (i + 1) _ _ _ _ rs rs' la.2 lb.2 h (room_tail hu) (fun hi => absurd hi (Nat.succ_ne_zero i)) hf' hq)
        | false =>
          rw [hx, if_neg (by decide)] at h
          rw [all_no h hx] at hq
          refine kat_no ?_
          by_cases hi : i = 0
          · obtain ⟨p, q, r1, t1, e1, e2⟩ := h0 hi
            cases e1; cases e2
            cases r; cases r'
            subst hi
            rw [PySem.W.dataLt_str] at hq
            exact oneLt_str hq
          · have hb : (true && i == 0) = false := by simp [hi]
            rw [hb, oneLt'_eq]
            simp only [Bool.false_eq_true, if_false]
            exact wpAny_bind (rcLt_cmpb x y A s _ _ _ _ r r' la.1 lb.1 h (room_head hu) prog w _ _ (wpAny_truthy_bool hq))
end
/-- sorting -/
def sortOk1 (xs : List D) : Prop := PySem.W.AllAlike (xs.map D.toP) ∧ PySem.W.Sortable (xs.map D.toP)
def sortOk2 (xs : List D) : Prop := (∀ x ∈ xs, ∀ y ∈ xs, cmpb x.toP y.toP = true) ∧ ∀ x ∈ xs, ∃ w r, x = .tup (.str w :: r)
def sortOk (xs : List D) : Prop := (D.plainA xs = true ∧ D.depA xs ≤ 400) ∧ (sortOk1 xs ∨ sortOk2 xs)
noncomputable def sortD (xs : List D) : List D := xs.mergeSort (PySem.W.dataLe false D.toP)
open Classical in
noncomputable def gSorted (m : Bool) : FB := fun ds h => match ds with
  | [d] => match seqOf h d with
    | some xs => if sortOk xs then fresh m (sortD xs) h else .stuck
    | none => .stuck
  | _ => .stuck
mutual
theorem toP_uniq {h : Heap} : ∀ (x y : D) (v : Value) (as bs : List Addr), x.plain = true → y.plain = true → Reads h v x.toP as → Reads h v y.toP bs → x.toP = y.toP
  | .ref _, _, _, _, _, p, _, _, _ => by simp [D.plain] at p
  | .exc _ _ _ _, _, _, _, _, p, _, _, _ => by simp [D.plain] at p
  | .non, y, _, _, _, _, q, r1, r2 => by
    cases y <;> simp [D.plain] at q <;> simp only [D.toP] at r1 r2 ⊢ <;> cases r1 <;> cases r2 <;> rfl
  | .bl b, y, _, _, _, _, q, r1, r2 => by
    cases y <;> simp [D.plain] at q <;> simp only [D.toP] at r1 r2 ⊢ <;> cases r1 <;> cases r2 <;> rfl
  | .int b, y, _, _, _, _, q, r1, r2 => by
    cases y <;> simp [D.plain] at q <;> simp only [D.toP] at r1 r2 ⊢ <;> cases r1 <;> cases r2 <;> rfl
  | .str b, y, _, _, _, _, q, r1, r2 => by
    cases y <;> simp [D.plain] at q <;> simp only [D.toP] at r1 r2 ⊢ <;> cases r1 <;> cases r2 <;> rfl
  | .tup xs, y, v, as, bs, p, q, r1, r2 => by
    cases y <;> simp [D.plain] at p q <;> simp only [D.toP] at r1 r2 ⊢ <;> try (cases r1 <;> cases r2 <;> done)
    · rename_i ys
      cases r1 with
      | tuple h1 h2 h3 h4 =>
        cases r2 with
        | tuple k1 k2 k3 k4 =>
          rw [h1] at k1; cases k1
          rw [h3] at k3; cases k3
          rw [toPA_uniq xs ys _ _ _ p q h4 k4]
    all_goals
      cases r1 with
      | tuple h1 h2 h3 h4 =>
        cases r2 with
        | list k1 k2 k3 k4 =>
          rw [h1] at k1; cases k1
          rw [h2] at k2
          exact absurd k2 (by decide)
  | .lst xs, y, v, as, bs, p, q, r1, r2 => by
    cases y <;> simp [D.plain] at p q <;> simp only [D.toP] at r1 r2 ⊢ <;> try (cases r1 <;> cases r2 <;> done)
    · rename_i ys
      cases r1 with
      | list h1 h2 h3 h4 =>
        cases r2 with
        | tuple k1 k2 k3 k4 =>
          rw [h1] at k1; cases k1
          rw [h2] at k2
          exact absurd k2 (by decide)
    all_goals
      rename_i ys
      cases r1 with
      | list h1 h2 h3 h4 =>
        cases r2 with
        | list k1 k2 k3 k4 =>
          rw [h1] at k1; cases k1
          rw [h3] at k3; cases k3
          rw [toPA_uniq xs ys _ _ _ p q h4 k4]
  | .scr xs, y, v, as, bs, p, q, r1, r2 => by
    cases y <;> simp [D.plain] at p q <;> simp only [D.toP] at r1 r2 ⊢ <;> try (cases r1 <;> cases r2 <;> done)
    · rename_i ys
      cases r1 with
      | list h1 h2 h3 h4 =>
        cases r2 with
        | tuple k1 k2 k3 k4 =>
          rw [h1] at k1; cases k1
          rw [h2] at k2
          exact absurd k2 (by decide)
    all_goals
      rename_i ys
      cases r1 with
      | list h1 h2 h3 h4 =>
        cases r2 with
        | list k1 k2 k3 k4 =>
          rw [h1] at k1; cases k1
          rw [h3] at k3; cases k3
          rw [toPA_uniq xs ys _ _ _ p q h4 k4]
theorem toPA_uniq {h : Heap} : ∀ (xs ys : List D) (vs : List Value) (as bs : List Addr), D.plainA xs = true → D.plainA ys = true → ReadsAll h vs (D.toPA xs) as → ReadsAll h vs (D.toPA ys) bs → D.toPA xs = D.toPA ys
  | [], [], _, _, _, _, _, _, _ => rfl
  | [], y :: ys, _, _, _, _, _, r1, r2 => by simp only [D.toPA] at r1 r2; cases r1; cases r2
  | x :: xs, [], _, _, _, _, _, r1, r2 => by simp only [D.toPA] at r1 r2; cases r2; cases r1
  | x :: xs, y :: ys, _, _, _, p, q, r1, r2 => by
    simp only [D.plainA, Bool.and_eq_true] at p q
    simp only [D.toPA] at r1 r2 ⊢
    cases r1 with
    | cons h1 h2 =>
      cases r2 with
      | cons k1 k2 => rw [toP_uniq x y _ _ _ p.1 q.1 h1 k1, toPA_uniq xs ys _ _ _ p.2 q.2 h2 k2]
end
section
variable {prog : Program} {w : World} {A : Around} {s : Shared}
theorem kind_some {h : Heap} {xs : List D} (p : D.plainA xs = true) {v : Value} {x : D} {as : List Addr} (hx : x ∈ xs) (r : Reads h v x.toP as) : (PySem.W.dataKind h (xs.map D.toP)).keyOf v = some (keyToks x.toP) := by
  have q : ∃ d, d ∈ xs.map D.toP ∧ ∃ as, Reads h v d as := ⟨x.toP, List.mem_map.mpr ⟨x, hx, rfl⟩, as, r⟩
  show (open Classical in if q : ∃ d, d ∈ xs.map D.toP ∧ ∃ as, Reads h v d as then some (keyToks q.choose) else none) = _
  rw [dif_pos q]
  obtain ⟨h1, as', h2⟩ := q.choose_spec
  obtain ⟨y, hy, ey⟩ := List.mem_map.mp h1
  rw [← ey] at h2 ⊢
  rw [toP_uniq x y v as as' (plainA_iff.mp p x hx) (plainA_iff.mp p y hy) r h2]
theorem sorts_cmp {vs : List Value} {xs : List D} (p : D.plainA xs = true) (lay : PyData.canLayAll0 (D.toPA xs) = true) (e : EachIs (fun v (d : D) => ∃ as, Reads s.heap v d.toP as) vs xs) (ok : sortOk2 xs) (hu : ∀ x ∈ xs, A.units + x.toP.depth < cLine) : PySem.W.SortsAt prog w A s (PySem.W.dataKind s.heap (xs.map D.toP)) vs := by
  obtain ⟨hc, ht⟩ := ok
  have layx : ∀ x ∈ xs, x.toP.canLay0 = true := by
    intro x hx
    have : ∀ (ds : List D), PyData.canLayAll0 (D.toPA ds) = true → ∀ d ∈ ds, d.toP.canLay0 = true := by
      intro ds
      induction ds with
      | nil => intro _ d hd; simp at hd
      | cons a l ih =>
        intro h d hd
        simp only [D.toPA, PyData.canLayAll0, Bool.and_eq_true] at h
        rcases List.mem_cons.mp hd with rfl | hd
        · exact h.1
        · exact ih h.2 d hd
    exact this xs lay x hx
  refine ⟨fun v hv => ?_, ?_⟩
  · obtain ⟨d, hd, as, r⟩ := e.left v hv
    exact ⟨_, kind_some p hd r⟩
  · refine ⟨tuples' true, ?_, fun h2 E Q hq => ?_⟩
    · intro E x y a b Q ha hb hq
      obtain ⟨d, as, hd, ra, rfl⟩ := PySem.W.dataKind_inv ha
      obtain ⟨d', as', hd', rb, rfl⟩ := PySem.W.dataKind_inv hb
      obtain ⟨x1, hx1, rfl⟩ := List.mem_map.mp hd
      obtain ⟨x2, hx2, rfl⟩ := List.mem_map.mp hd'
      have hcc := hc x1 hx1 x2 hx2
      have l1 := layx x1 hx1
      have l2 := layx x2 hx2
      have hroom : A.units + min x1.toP.depth x2.toP.depth < cLine := Nat.lt_of_le_of_lt (Nat.add_le_add_left (Nat.min_le_left _ _) _) (hu x1 hx1)
      obtain ⟨w1, r1, rfl⟩ := ht x1 hx1
      obtain ⟨w2, r2, rfl⟩ := ht x2 hx2
      simp only [D.toP, D.toPA] at ra rb hcc l1 l2 hroom hq
      have hq' : Q (dataLt (.tuple (.str ⟨w1.toArray⟩ :: D.toPA r1)) (.tuple (.str ⟨w2.toArray⟩ :: D.toPA r2))) s := hq
      rw [PySem.W.dataLt_tuple] at hq'
      have l1' : PyData.canLayAll0 (PyData.str ⟨w1.toArray⟩ :: D.toPA r1) = true := by simpa [PyData.canLay0] using l1
      have l2' : PyData.canLayAll0 (PyData.str ⟨w2.toArray⟩ :: D.toPA r2) = true := by simpa [PyData.canLay0] using l2
      cases ra with
      | @tuple l o xs1 n _ _ h1 h2 h3 h4 =>
        cases rb with
        | @tuple l' o' xs2 n' _ _ k1 k2 k3 k4 =>
          have n1 : xs1.size = (PyData.str ⟨w1.toArray⟩ :: D.toPA r1).length := by simpa using SeqAt.ReadsAll.length _ _ _ h4
          have n2 : xs2.size = (PyData.str ⟨w2.toArray⟩ :: D.toPA r2).length := by simpa using SeqAt.ReadsAll.length _ _ _ k4
          have hcc' : cmpbA (PyData.str ⟨w1.toArray⟩ :: D.toPA r1) (PyData.str ⟨w2.toArray⟩ :: D.toPA r2) = true := by simpa [cmpb] using hcc
          exact PySem.W.kat_lt h1 h3 k1 k3 (katLex_cmpb _ _ 0 _ _ _ _ h4 k4 l1' l2' hcc' (by have q := SeqAt.room_in hroom; omega) (fun _ => ⟨_, _, _, _, rfl, rfl⟩) (by rw [n1, n2]) hq')
    · have e' : EachIs (fun v d => ∃ as, Reads s.heap v d as) vs (xs.map D.toP) := PySem.W.each_map (R := fun v d => ∃ as, Reads s.heap v d as) D.toP e
      obtain ⟨fs, t1, t2, t3⟩ := PySem.W.each_katTups e' (fun d hd => by
        obtain ⟨x, hx, rfl⟩ := List.mem_map.mp hd
        obtain ⟨w1, r1, rfl⟩ := ht x hx
        exact ⟨.str ⟨w1.toArray⟩, D.toPA r1, by simp [D.toP, D.toPA]⟩)
      refine PySem.W.kat_kind (T := .type "str") t1 (by omega) (fun f hf => ?_) rfl hq
      obtain ⟨x, r, as, m1, m2⟩ := t3 f hf
      obtain ⟨y, hy, ey⟩ := List.mem_map.mp m1
      obtain ⟨w1, r1, rfl⟩ := ht y hy
      simp only [D.toP, D.toPA, PyData.tuple.injEq, List.cons.injEq] at ey
      rw [← ey.1] at m2
      exact PySem.W.looks_reads m2
theorem sorted_each {h : Heap} {R : Value → D → Prop} {vs : List Value} {xs : List D} (p : D.plainA xs = true) (e : EachIs R vs xs) (er : EachIs (fun v (d : D) => ∃ as, Reads h v d.toP as) vs xs) : EachIs R (PySem.W.sortVals (PySem.W.dataKind h (xs.map D.toP)) false vs vs) (sortD xs) :=
  PySem.W.sortVals_each (κ := PySem.W.dataKind h (xs.map D.toP)) (fun b => keyToks b.toP) e ((PySem.W.each_mem er).mono fun _ _ ⟨⟨_, r⟩, hd⟩ => kind_some p hd r)
end
section
variable {X : Cx} {CL : List XC} {W : WX} {c : Calls}
theorem vals_len {vs : List V} {us : List Value} (h : Vals vs us) : vs.length = us.length := h.length
theorem ca_sorted {m : Bool} (hu : X.A.units + 560 < cLine) : CaE X (.builtin "sorted") (gSorted m) := by
  intro pins s σ H xs us Q I rv ⟨r, h, ds, Y, ra, q⟩
  unfold gSorted at q
  split at q
  · rename_i d
    obtain ⟨v, rfl, rp⟩ := one_of ra
    split at q
    · rename_i ys e
      by_cases ok : sortOk ys
      rotate_left
      · rw [if_neg ok] at q; exact q.elim
      rw [if_pos ok] at q
      obtain ⟨⟨p1, p4⟩, p2⟩ := ok
      obtain ⟨a, vs, rfl, k, sq⟩ := seq_rep Y rp e
      have there : ∃ (its : List Value) (o : Obj) (T : String) (n : Nat), Vals vs its ∧ s.heap.get? a = some o ∧ o.cls = .type T ∧ (T = "list" ∨ T = "tuple") ∧ o.data = .seq its.toArray n := by
        rcases sq with sq | sq
        · obtain ⟨its, rvs, hl, _⟩ := I.list sq
          obtain ⟨o, ho, hc, n, hd⟩ := hl.isList
          exact ⟨its, o, "list", n, rvs, ho, hc, .inl rfl, hd⟩
        · obtain ⟨its, rvs, ht, _⟩ := I.tuple sq.seq
          obtain ⟨o, ho, hc, n, hd⟩ := ht
          exact ⟨its, o, "tuple", n, rvs, ho, hc, .inr rfl, hd⟩
      obtain ⟨its, o, T, n, rvs, ho, hc, hT, hd⟩ := there
      have hz := fresh_len q
      have hz1 : its.length ≤ sizeLine := by
        have e1 := rvs.length
        have e2 := k.len
        unfold sortD at hz
        rw [List.length_mergeSort] at hz
        omega
      rw [Vals.ref1 rv]
      have es := stands_of rvs k
      refine PySem.Calls.call_function_entry kind_sorted plain_sorted entry_sorted (args_sorted1 _) ?_
      unfold Builtin.«sorted»
      refine wpAny_bind (m := checkCount "sorted" 1 1 _) (wpAny_pure ?_)
      refine wpAny_bind (wpAny_collect_seq a hT ho hc hd (fun h1 k1 => ?_) (by rw [List.size_toArray]; exact hz1))
      have I1 : Inv X pins σ H { s with heap := h1 } := I.kept (t' := s.toks) k1
      have eL : its.toArray.toList = its := by simp
      rw [eL]
      have er := each_reads I1 rfl rvs k p1
      refine wpAny_bind (wpAny_newList ?_ hz1)
      have hp : (h1.push (seqObj "list" its.toArray 0)).get? h1.objs.size = some (seqObj "list" its.toArray 0) := Heap.get?_push_size _ rfl
      have old1 : ∀ b u, h1.get? b = some u → (h1.push (seqObj "list" its.toArray 0)).get? b = some u := fun b u hb => Heap.get?_push_of_some _ hb
      have old2 : ∀ b u, h1.get? b = some u → (PySem.W.sortingHeap (h1.push (seqObj "list" its.toArray 0)) h1.objs.size its).get? b = some u := fun b u hb => PySem.W.sortingHeap_old (Nat.ne_of_lt (Heap.lt_size hb)) (old1 b u hb)
      have er2 : EachIs (fun u d => ∃ as, Reads (PySem.W.sortingHeap (h1.push (seqObj "list" its.toArray 0)) h1.objs.size its) u d.toP as) its ys := er.mono fun _ _ ⟨as, rr⟩ => ⟨as, PyProof.Rows.Reads.keeps old2 rr⟩
      refine wpAny_bind (wpAny_holding (wpAny_call_entry slot_list_sort ⟨_, hp, rfl⟩ entry_list_sort (PySem.W.list_sort_vals (κ := PySem.W.dataKind (PySem.W.sortingHeap (h1.push (seqObj "list" its.toArray 0)) h1.objs.size its) (ys.map D.toP)) hp ?S hz1 ⟨.none, rfl, ?_⟩) (args_list_sort _)))
      case S =>
        have dep : ∀ b ∈ ys, X.A.in1.in1.units + b.toP.depth < cLine := fun b hb => by
          have hdep : b.dep ≤ D.depA ys := by
            obtain ⟨j, hj, rfl⟩ := List.mem_iff_getElem.mp hb
            exact depA_get ys hj
          rw [toP_dep]
          show X.A.units + 1 + 1 + _ < _
          omega
        rcases p2 with ⟨q1, q2⟩ | q
        · refine PySem.W.SortsAt.data (PySem.W.each_map (R := fun v d => ∃ as, Reads _ v d as) D.toP er2) q1 q2 fun d hd => ?_
          obtain ⟨b, hb, rfl⟩ := List.mem_map.mp hd
          exact dep b hb
        · exact sorts_cmp (s := { s with heap := PySem.W.sortingHeap (h1.push (seqObj "list" its.toArray 0)) h1.objs.size its }) p1 k.lay er2 q dep
      have hsz : (PySem.W.sortVals (PySem.W.dataKind (PySem.W.sortingHeap (h1.push (seqObj "list" its.toArray 0)) h1.objs.size its) (ys.map D.toP)) false its its).length = its.length := PySem.W.sortVals_length false rfl
      have so := sorted_each p1 es er2
      generalize hout : PySem.W.sortVals (PySem.W.dataKind (PySem.W.sortingHeap (h1.push (seqObj "list" its.toArray 0)) h1.objs.size its) (ys.map D.toP)) false its its = out at so hsz
      obtain ⟨vo, rvo, ko⟩ := of_stands so
      obtain ⟨ep, he'⟩ := sortedHeap_at (vs := its) (out := out.toArray) hp
      have hzo : vo.length ≤ sizeLine := by rw [rvo.length, hsz]; exact hz1
      have keep : ∀ b u, h1.get? b = some u → (sortedHeap (h1.push (seqObj "list" its.toArray 0)) h1.objs.size its out.toArray).get? b = some u := fun b u hb => by
        rw [sortedHeap_old (Nat.ne_of_lt (Heap.lt_size hb)) (Heap.lt_size (old1 b u hb))]
        exact old1 b u hb
      refine wpAny_pure ⟨_, rfl, .ref h1.objs.size, upd H h1.objs.size (.lst vo), I1.laid (t' := s.toks) keep (Nat.le_refl _) ⟨hzo, out, ep, rvo, he'⟩, rfl, ?_⟩
      exact new_shut Y ko q (I1.hok.fresh (Nat.le_refl _))
    · exact q.elim
  · exact q.elim
theorem calmB_sorted {m : Bool} : CalmB (gSorted m) := by
  intro ds h c fs h'
  unfold gSorted
  split
  · split
    · split
      · exact fresh_calm
      · intro z; cases z
    · intro z; cases z
  · intro z; cases z
theorem g_sorted {e : Expr} {es : List Expr} {l : ML} {m : Bool} {p pos : Pos} (hm : X.mg "sorted" = none) (hu : X.A.units + 560 < cLine) (ha : DA X CL W c (e :: es) l) (hg : Gl X "sorted" := by rfl) (he : starEach (e :: es) X.env = (false, eval e X.env) :: starEach es X.env := by rfl) (hpl : (backTo pos (starEach es X.env)).any (·.1) = false := by rfl) :
    DE X CL W c (.Call (.Name "sorted" p) (e :: es) [] pos) (mB (gSorted m) l) := de_bif calmB_sorted (ca_sorted hu) hg hm (by first | rfl | kernel_rfl) ha (by decide) (by decide) he hpl
end
/-! sorted texts, sorted ints -/
theorem alike_str (x y : Str) : PySem.W.alike (.str x) (.str y) = true := by simp [PySem.W.alike]
theorem alike_int (x y : Int) : PySem.W.alike (.int x) (.int y) = true := by simp [PySem.W.alike]
theorem plain_strs : ∀ ss : List (List Nat), D.plainA (ss.map D.str) = true
  | [] => rfl
  | _ :: ss => by simp [D.plainA, D.plain, plain_strs ss]
theorem dep_strs : ∀ ss : List (List Nat), D.depA (ss.map D.str) = 0
  | [] => rfl
  | _ :: ss => by simp [D.depA, D.dep, dep_strs ss]
theorem plain_ints : ∀ ss : List Int, D.plainA (ss.map D.int) = true
  | [] => rfl
  | _ :: ss => by simp [D.plainA, D.plain, plain_ints ss]
theorem dep_ints : ∀ ss : List Int, D.depA (ss.map D.int) = 0
  | [] => rfl
  | _ :: ss => by simp [D.depA, D.dep, dep_ints ss]
theorem sortOk_strs (ss : List (List Nat)) : sortOk (ss.map D.str) := by
  refine ⟨⟨plain_strs ss, by rw [dep_strs]; omega⟩, .inl ⟨?_, .inr ?_⟩⟩
  · intro d hd d' hd'
    simp only [List.mem_map] at hd hd'
    obtain ⟨_, ⟨x, _, rfl⟩, rfl⟩ := hd
    obtain ⟨_, ⟨y, _, rfl⟩, rfl⟩ := hd'
    simp only [D.toP, alike_str]
  · intro d hd
    simp only [List.mem_map] at hd
    obtain ⟨_, ⟨x, _, rfl⟩, rfl⟩ := hd
    exact ⟨by simp [D.toP], fun xs => by simp [D.toP]⟩
theorem sortOk_ints (ss : List Int) : sortOk (ss.map D.int) := by
  refine ⟨⟨plain_ints ss, by rw [dep_ints]; omega⟩, .inl ⟨?_, .inr ?_⟩⟩
  · intro d hd d' hd'
    simp only [List.mem_map] at hd hd'
    obtain ⟨_, ⟨x, _, rfl⟩, rfl⟩ := hd
    obtain ⟨_, ⟨y, _, rfl⟩, rfl⟩ := hd'
    simp only [D.toP, alike_int]
  · intro d hd
    simp only [List.mem_map] at hd
    obtain ⟨_, ⟨x, _, rfl⟩, rfl⟩ := hd
    exact ⟨by simp [D.toP], fun xs => by simp [D.toP]⟩
def sortS (ss : List (List Nat)) : List (List Nat) := ss.mergeSort fun a b => decide (a ≤ b)
def sortI (ss : List Int) : List Int := ss.mergeSort fun a b => decide (a ≤ b)
theorem sortD_strs (ss : List (List Nat)) : sortD (ss.map D.str) = (sortS ss).map D.str := by
  unfold sortD sortS
  rw [List.map_mergeSort]
  intro a _ b _
  have := congrFun (congrFun (PySem.W.dataLe_str (β := List Nat) fun s => ⟨s.toArray⟩) a) b
  simp only [PySem.W.dataLe_eq] at this ⊢
  simp only [D.toP]
  rw [this]
theorem sortD_ints (ss : List Int) : sortD (ss.map D.int) = (sortI ss).map D.int := by
  unfold sortD sortI
  rw [List.map_mergeSort]
  intro a _ b _
  have := congrFun (congrFun (PySem.W.dataLe_int (β := Int) fun s => s) a) b
  simp only [PySem.W.dataLe_eq] at this ⊢
  simp only [D.toP]
  rw [this]
theorem gSorted_strs {m : Bool} {d : D} {h : Hd} {ss : List (List Nat)} (e : seqOf h d = some (ss.map D.str)) : gSorted m [d] h = fresh m ((sortS ss).map D.str) h := by
  unfold gSorted
  simp only [e]
  rw [if_pos (sortOk_strs ss), sortD_strs]
theorem gSorted_ints {m : Bool} {d : D} {h : Hd} {ss : List Int} (e : seqOf h d = some (ss.map D.int)) : gSorted m [d] h = fresh m ((sortI ss).map D.int) h := by
  unfold gSorted
  simp only [e]
  rw [if_pos (sortOk_ints ss), sortD_ints]
end Ev

/-! Ev25: loops by what holds at each turn. -/
namespace Ev
open PySem L2
/-- how a turn may end -/
inductive Turn (I : Tau → Hd → Prop) (O : SR → Prop) : SR → Prop
  | nx {t : Tau} {h : Hd} : I t h → Turn I O (.nx t h)
  | ct {t : Tau} {h : Hd} : I t h → Turn I O (.ct t h)
  | bk {t : Tau} {h : Hd} : O (.nx t h) → Turn I O (.bk t h)
  | rt {d : D} {h : Hd} : O (.rt d h) → Turn I O (.rt d h)
  | exn {k : Nat} {fs : List D} {t : Tau} {h : Hd} : O (.exn k fs t h) → Turn I O (.exn k fs t h)
theorem forL_gen {s : Src} {step : D → Tau → Hd → SR} {I : List D → Tau → Hd → Prop} {O : SR → Prop} (hs : ∀ d ds t h, I (d :: ds) t h → s.ok h ∧ Turn (I ds) O (step d t h)) (he : ∀ t h, I [] t h → s.ok h ∧ O (.nx t h)) :
    ∀ ds t h, I ds t h → O (forL s step ds t h)
  | [], t, h, i => by
    obtain ⟨a, b⟩ := he t h i
    unfold forL
    rw [if_pos a]
    exact b
  | d :: ds, t, h, i => by
    obtain ⟨a, b⟩ := hs d ds t h i
    unfold forL
    rw [if_pos a]
    generalize step d t h = x at b
    cases b with
    | nx q => exact forL_gen hs he ds _ _ q
    | ct q => exact forL_gen hs he ds _ _ q
    | bk q => exact q
    | rt q => exact q
    | exn q => exact q
theorem sFor_gen {it : MI} {g : Tg} {b : MS} {c : Calls} {t : Tau} {h h1 : Hd} {s : Src} {I : List D → Tau → Hd → Prop} {O : SR → Prop} (hi : it c t h = .ok s h1)
    (hs : ∀ d ds t h, I (d :: ds) t h → s.ok h ∧ ∃ t1, asg g d t = some t1 ∧ Turn (I ds) O (b c t1 h)) (he : ∀ t h, I [] t h → s.ok h ∧ O (.nx t h)) (h0 : I s.items t h1) : O (sFor it g b c t h) := by
  unfold sFor
  rw [hi, toS_ok]
  refine forL_gen (I := I) (fun d ds t h i => ?_) he _ _ _ h0
  obtain ⟨a, t1, e, q⟩ := hs d ds t h i
  refine ⟨a, ?_⟩
  simp only [e]
  exact q
theorem whileL_gen {k : MB} {b : MS} {c : Calls} {I : Nat → Tau → Hd → Prop} {O : SR → Prop} (hs : ∀ n t h, I n t h → (k c t h = .ok false h ∧ O (.nx t h)) ∨ (k c t h = .ok true h ∧ Turn (fun t' h' => ∃ m, m < n ∧ I m t' h') O (b c t h))) :
    ∀ n N t h, n < N → I n t h → O (whileL k b c N t h) := by
  intro n
  induction n using Nat.strongRecOn with
  | ind n ih =>
    intro N t h hN i
    obtain ⟨N, rfl⟩ : ∃ M, N = M + 1 := ⟨N - 1, by omega⟩
    unfold whileL
    rcases hs n t h i with ⟨e, o⟩ | ⟨e, q⟩
    · rw [e, toS_ok, if_neg (by decide)]
      exact o
    · rw [e, toS_ok, if_pos rfl]
      generalize b c t h = x at q
      cases q with
      | nx q => obtain ⟨m, hm, i'⟩ := q; exact ih m hm N _ _ (by omega) i'
      | ct q => obtain ⟨m, hm, i'⟩ := q; exact ih m hm N _ _ (by omega) i'
      | bk q => exact q
      | rt q => exact q
      | exn q => exact q
theorem sWhile_gen {k : MB} {b : MS} {c : Calls} {t : Tau} {h : Hd} {I : Nat → Tau → Hd → Prop} {O : SR → Prop} (hs : ∀ n t h, I n t h → (k c t h = .ok false h ∧ O (.nx t h)) ∨ (k c t h = .ok true h ∧ Turn (fun t' h' => ∃ m, m < n ∧ I m t' h') O (b c t h)))
    (n : Nat) (hn : n < 1000000000) (h0 : I n t h) : O (sWhile k b c t h) := whileL_gen hs n bigN t h hn h0
/-- a comprehension, by what holds at each item -/
theorem compL_gen {s : Src} {step : D → Hd → Res (Option D)} {I : List D → List D → Hd → Prop} (hs : ∀ d ds os h, I (d :: ds) os h → s.ok h ∧ ∃ o h', step d h = .ok o h' ∧ I ds (os ++ o.toList) h') (he : ∀ os h, I [] os h → s.ok h) :
    ∀ ds os h, I ds os h → ∃ xs h', compL s step ds h = .ok xs h' ∧ I [] (os ++ xs) h'
  | [], os, h, i => by
    refine ⟨[], h, ?_, by rw [List.append_nil]; exact i⟩
    unfold compL
    rw [if_pos (he os h i)]
  | d :: ds, os, h, i => by
    obtain ⟨a, o, h', e, i'⟩ := hs d ds os h i
    obtain ⟨xs, h2, e2, i2⟩ := compL_gen hs he ds _ _ i'
    refine ⟨o.toList ++ xs, h2, ?_, by rw [← List.append_assoc]; exact i2⟩
    unfold compL
    rw [if_pos a, e, bind_ok, e2, bind_ok]
theorem runFn_go {F : FnD} {c : Calls} {ds : List D} {h : Hd} (hl : ds.length = F.np) : runFn F c ds h = fin h (F.body c (ds.map some ++ List.replicate (F.nn - F.np) none) h) := if_pos hl
theorem runFn_at {np nn : Nat} {b : MS} {c : Calls} {ds : List D} {h : Hd} (hl : ds.length = np) {t : Tau} (ht : ds.map some ++ List.replicate (nn - np) none = t) : runFn ⟨np, nn, b⟩ c ds h = fin h (b c t h) := by
  subst ht
  exact runFn_go hl
theorem lvl {n k : Nat} (h : k ≤ n) : ∃ m, n = m + k := ⟨n - k, by omega⟩
theorem dRng1_ok {j : Int} (h : Hd) (h1 : -1000000000 ≤ j) (h2 : j < 1000000000) : dRng1 (.int j) h = .ok ⟨rngD 0 j.toNat, none⟩ h := by
  have e2 : -4611686018427387904 ≤ j := by omega
  have e3 : j < 4611686018427387904 := by omega
  simp [dRng1, e2, e3]
theorem rng_none {xs : List D} {h : Hd} : (Src.mk xs none).ok h := trivial
theorem rngD_eq (k : Nat) : rngD 0 k = (List.range k).map fun (k : Nat) => D.int (k : Int) := by
  rw [rngD]; simp
theorem plainA_ap {xs ys : List D} : D.plainA (xs ++ ys) = (D.plainA xs && D.plainA ys) := by
  induction xs with
  | nil => simp [D.plainA]
  | cons x xs ih => simp [D.plainA, ih, Bool.and_assoc]
@[simp] theorem get_last (b : Hd) (x : O) : (b ++ [x])[b.length]? = some x := by simp
@[simp] theorem set_last (b : Hd) (x y : O) : (b ++ [x]).set b.length y = b ++ [y] := by
  rw [List.set_append_right _ _ (Nat.le_refl _)]; simp
theorem set_self {h : Hd} {L : Nat} {o : O} (e : h[L]? = some o) : h.set L o = h := by
  apply List.ext_getElem?
  intro j
  by_cases q : j = L
  · subst q; rw [List.getElem?_set_self (List.getElem?_eq_some_iff.mp e).1, e]
  · rw [List.getElem?_set_ne (Ne.symm q)]
theorem eqv_lst (xs ys : List D) : D.eqv (.lst xs) (.lst ys) = D.eqvA xs ys := by rw [D.eqv]
theorem eqv_tup (xs ys : List D) : D.eqv (.tup xs) (.tup ys) = D.eqvA xs ys := by rw [D.eqv]
theorem eqvA_cons (x y : D) (xs ys : List D) : D.eqvA (x :: xs) (y :: ys) = (D.eqv x y && D.eqvA xs ys) := by rw [D.eqvA]
theorem eqvA_nil : D.eqvA [] [] = true := by rw [D.eqvA]
theorem eqvA_nc (y : D) (ys : List D) : D.eqvA [] (y :: ys) = false := by rw [D.eqvA] <;> simp
theorem eqvA_cn (y : D) (ys : List D) : D.eqvA (y :: ys) [] = false := by rw [D.eqvA] <;> simp
/-- appending to the open list at L, popping from it -/
theorem append_at {c : Calls} {t : Tau} {h H : Hd} {m : M} {i L : Nat} {xs ys : List D} {d : D} (ti : t[i]? = some (some (.ref L))) (ek : h[L]? = some (.lst ys)) (em : m c t h = .ok d H) (e : H[L]? = some (.lst xs)) (hz : xs.length < 16777216) : sExpr (mMt kAppend (mVar i) (aCons m aNil)) c t h = .nx t (H.set L (.lst (xs ++ [d]))) := by
  have hz1 : xs.length < sizeLine := by rw [sizeLine_eq]; exact hz
  simp [ti, kindOf, ek, kAppend, em, fAppend, D.open?, e, hz1]
theorem pop_at {c : Calls} {t : Tau} {h : Hd} {i L : Nat} {ys : List D} {y : D} (ti : t[i]? = some (some (.ref L))) (e : h[L]? = some (.lst (ys ++ [y]))) : mMt kPop (mVar i) aNil c t h = .ok y (h.set L (.lst ys)) := by
  simp [ti, kindOf, e, kPop, fPop, D.open?]
end Ev

/-! Ev26: d[k] = v, d a dict with ints and texts as keys. -/
namespace Ev
open PySem PySem.Spec PyProof.Rows L2 PySem.Calls
open PySem.W (Frag)
def dPut (o i v : D) (h : Hd) : Res Unit := match o with
  | .ref a => match h[a]? with
    | some (.dict es) => if keyOk i = true ∧ es.length < 16777216 then .ok () (h.set a (.dict (putD es i v))) else .stuck
    | _ => .stuck
  | _ => .stuck
def sPut (o i m : M) : MS := fun c t h => (m c t h).toS t fun v h1 => (o c t h1).toS t fun x h2 => (i c t h2).toS t fun y h3 => (dPut x y v h3).toS t fun _ h4 => .nx t h4
@[simp] theorem sPut_ev {c : Calls} {t : Tau} {h : Hd} (o i m : M) : sPut o i m c t h = (m c t h).toS t fun v h1 => (o c t h1).toS t fun x h2 => (i c t h2).toS t fun y h3 => (dPut x y v h3).toS t fun _ h4 => .nx t h4 := rfl
section
variable {X : Cx} {CL : List XC} {W : WX} {c : Calls} {o i e : Expr} {mo mi me : M} {pos pt : Pos}
theorem s_put (hu : X.A.units + 560 < cLine) (ho : DE X CL W c o mo) (hi : DE X CL W c i mi) (he : DE X CL W c e me) (hs : swapsWithSole [.Subscript o i pt] e pos.line X.env = pure false := by rfl) (hw : swappedStores [.Subscript o i pt] e X.env = pure none := by rfl)
    (h1 : (assignEach [.Subscript o i pt] X.env).map (·.2) = [assign (.Subscript o i pt) X.env] := by rfl)
    (ha : ∀ v, assign (.Subscript o i pt) X.env v = (do
      let ov ← holding [v] (eval o X.env)
      let iv ← holding [v, ov] (eval i X.env)
      standAt pt
      holding [v, ov, iv] (setItem ov iv v)
      release [v, ov, iv] []) := by intro _; rfl) : DS X CL W c (.Assign [.Subscript o i pt] e pos) (sPut mo mi me) :=
  psimp (ps_asg he (pg_sub ho hi (set_dict (by omega)) ha) hs hw h1) fun E σ H ⟨r, t, h, Y, S, q⟩ => (rs_bind Y S q).mono fun v H1 ⟨r1, h1, d, e1, Y1, S1, rv, q1⟩ => (rs_bind Y1 S1 q1).mono fun x H2 ⟨r2, h2, dx, e2, Y2, S2, rx, q2⟩ => (rs_bind Y2 S2 q2).mono fun y H3 ⟨r3, h3, dy, e3, Y3, S3, ry, q3⟩ => by
    unfold dPut at q3
    split at q3
    · rename_i j _
      split at q3
      · rename_i es ej
        by_cases hk : keyOk dy = true ∧ es.length < 16777216
        · rw [if_pos hk] at q3
          have rx3 := rx.mono e3
          cases rx3 with
          | ref f =>
            obtain ⟨o', h4, h5⟩ := Y3.get _ _ f
            rw [ej] at h4; cases h4
            obtain ⟨kvs, h6, h7⟩ := h5
            have rv3 := (rv.mono e2).mono e3
            obtain ⟨k, rfl, rfl, ok⟩ := key_rep ry hk.1
            have lz : kvs.length < sizeLine := by rw [sizeLine_eq, repK_len h7]; exact hk.2
            have x4 : Ext r3 H3 r3 (upd H3 _ (.dK (putK kvs k v))) := Ext.wrote Y3 (List.mem_iff_getElem?.mpr ⟨j, f⟩)
            have Y4 := Y3.wrote f (o := .dict (putD es (KeyD k) d)) ⟨putK kvs k v, upd_same, (put_rep ok rv3 h7).mono x4⟩
            exact ⟨_, _, rfl, DPut.k h6 lz, rdS.nx (rdS.ext x4 q3) Y4 (S3.mono x4)⟩
          | dead f =>
            have := Y3.dead _ f
            rw [ej] at this; cases this
        · rw [if_neg hk] at q3
          exact q3.elim
      · exact q3.elim
    · exact q3.elim
end
/-! what a dict tells -/
theorem getD_put (es : List (D × D)) (i j : Int) (v : D) : getD (putD es (.int i) v) (.int j) = if i = j then some v else getD es (.int j) := by
  have key : ∀ (es : List (D × D)), getD (es.map fun p => if D.eqv p.1 (.int i) = true then (p.1, v) else p) (.int j) = if i = j then (if (es.any fun p => D.eqv p.1 (.int i)) = true then some v else none) else getD es (.int j) := by
    intro es
    induction es with
    | nil => simp [getD]
    | cons p es ih =>
      unfold getD at ih ⊢
      rw [List.map_cons, List.find?_cons, List.find?_cons, List.any_cons]
      by_cases h1 : D.eqv p.1 (.int i) = true
      · simp only [h1, if_true, Bool.true_or]
        by_cases h2 : i = j
        · subst h2; simp [h1]
        · have h3 : D.eqv p.1 (.int j) = false := by
            cases hp : p.1 with
            | int a => rw [hp] at h1; simp at h1; subst h1; simp [h2]
            | bl a =>
              rw [hp] at h1
              simp only [D.eqv, beq_iff_eq] at h1
              simp only [D.eqv, beq_eq_false_iff_ne]
              omega
            | _ => rw [hp] at h1; simp [D.eqv] at h1
          simp only [h3, h2, if_false] at ih ⊢
          exact ih
      · have h1' : D.eqv p.1 (.int i) = false := by simpa using h1
        simp only [h1', Bool.false_eq_true, if_false, Bool.false_or]
        cases h3 : D.eqv p.1 (.int j) with
        | true =>
          have : i ≠ j := by rintro rfl; rw [h1'] at h3; cases h3
          simp [this]
        | false => exact ih
  unfold putD
  by_cases h : (es.any fun p => D.eqv p.1 (.int i)) = true
  · rw [if_pos h, key, h]; simp
  · rw [if_neg h]
    unfold getD
    rw [List.find?_append]
    by_cases h2 : i = j
    · subst h2
      have : es.find? (fun p => D.eqv p.1 (.int i)) = none := by
        rw [List.find?_eq_none]
        intro p hp hq
        exact h (List.any_eq_true.mpr ⟨p, hp, hq⟩)
      rw [this]
      simp
    · simp [h2]
theorem putD_len (es : List (D × D)) (k v : D) : (putD es k v).length ≤ es.length + 1 := by
  unfold putD
  split <;> simp
end Ev

namespace K24
open PySem PySem.Spec PyProof.Rows L2 PySem.Calls Ev
open PySem.W (Frag)
abbrev prg : Program := PySem.Challenge.pw_snagdesk_k24_core_and_tests
def top (i : Nat) : Stmt := prg.main.body.getD i (.Pass ⟨0, 0, 0, 0⟩)
abbrev k_TOP_POINTS : D := (.int 20)
abbrev k_TOP_PRIORITY : D := (.int 4)
def nmf (k : Nat) : List Str := ([] : List (List Str)).getD k []
noncomputable def b_top_of : MS :=
  (sSeq (sIf (tCmp (mOp (dEq false) (mVar 0) (mC (.str [112, 114, 105, 111, 114, 105, 116, 121]))))
  (sRet (mC k_TOP_PRIORITY))
  sNil)
  (sRet (mC k_TOP_POINTS)))
noncomputable def b_at_least : MS :=
  (sSeq (sIf (tCmp (mOp dLe (mVar 1) (mC (.int 0))))
  (sRet (mTup (aCons (mC (.str [97, 108, 108])) aNil)))
  sNil)
  (sSeq (sIf (tCmp (mOp dGt (mVar 1) (mCall 0 (aCons (mVar 0) aNil))))
  (sRet (mTup (aCons (mC (.str [110, 111, 110, 101])) aNil)))
  sNil)
  (sRet (mTup (aCons (mC (.str [108, 101, 97, 115, 116])) (aCons (mVar 0) (aCons (mVar 1) aNil)))))))
noncomputable def b_core_number : MS :=
  (sSeq (sAsg (.tp [1, 2, 3, 4]) (mVar 0))
  (sSeq (sIf (tCmp (mOp (dEq false) (mVar 3) (mC (.str [62, 61]))))
  (sRet (mCall 1 (aCons (mVar 2) (aCons (mVar 4) aNil))))
  sNil)
  (sSeq (sIf (tCmp (mOp (dEq false) (mVar 3) (mC (.str [62]))))
  (sRet (mCall 1 (aCons (mVar 2) (aCons (mOp (dAdd false) (mVar 4) (mC (.int 1))) aNil))))
  sNil)
  (sSeq (sIf (tCmp (mOp (dEq false) (mVar 3) (mC (.str [60]))))
  (sRet (mTup (aCons (mC (.str [110, 111, 116])) (aCons (mCall 1 (aCons (mVar 2) (aCons (mVar 4) aNil))) aNil))))
  sNil)
  (sSeq (sSet 5 (mTup (aCons (mC (.str [110, 111, 116])) (aCons (mCall 1 (aCons (mVar 2) (aCons (mOp (dAdd false) (mVar 4) (mC (.int 1))) aNil))) aNil))))
  (sSeq (sIf (tCmp (mOp (dEq false) (mVar 3) (mC (.str [60, 61]))))
  (sRet (mVar 5))
  sNil)
  (sRet (mTup (aCons (mC (.str [97, 110, 100])) (aCons (mCall 1 (aCons (mVar 2) (aCons (mVar 4) aNil))) (aCons (mVar 5) aNil)))))))))))
noncomputable def b_core_form : MS :=
  (sSeq (sSet 1 (mOp dIx (mVar 0) (mC (.int 0))))
  (sSeq (sIf (tCmp (mOp (dEq false) (mVar 1) (mC (.str [110, 117, 109]))))
  (sRet (mCall 2 (aCons (mVar 0) aNil)))
  sNil)
  (sSeq (sIf (tCmp (mOp (dEq false) (mVar 1) (mC (.str [110, 111, 116]))))
  (sRet (mTup (aCons (mC (.str [110, 111, 116])) (aCons (mCall 3 (aCons (mOp dIx (mVar 0) (mC (.int 1))) aNil)) aNil))))
  sNil)
  (sSeq (sIf (tCmp (mOp (dIn false) (mVar 1) (mTup (aCons (mC (.str [97, 110, 100])) (aCons (mC (.str [111, 114])) aNil)))))
  (sRet (mTup (aCons (mVar 1) (aCons (mCall 3 (aCons (mOp dIx (mVar 0) (mC (.int 1))) aNil)) (aCons (mCall 3 (aCons (mOp dIx (mVar 0) (mC (.int 2))) aNil)) aNil)))))
  sNil)
  (sSeq (sIf (tCmp (mOp (dEq false) (mVar 1) (mC (.str [115, 111, 109, 101]))))
  (sRet (mTup (aCons (mC (.str [115, 111, 109, 101])) (aCons (mOp dIx (mVar 0) (mC (.int 1))) (aCons (mCall 3 (aCons (mOp dIx (mVar 0) (mC (.int 2))) aNil)) aNil)))))
  sNil)
  (sSeq (sIf (tCmp (mOp (dEq false) (mVar 1) (mC (.str [101, 118, 101, 114, 121]))))
  (sRet (mTup (aCons (mC (.str [110, 111, 116])) (aCons (mTup (aCons (mC (.str [115, 111, 109, 101])) (aCons (mOp dIx (mVar 0) (mC (.int 1))) (aCons (mTup (aCons (mC (.str [110, 111, 116])) (aCons (mCall 3 (aCons (mOp dIx (mVar 0) (mC (.int 2))) aNil)) aNil))) aNil)))) aNil))))
  sNil)
  (sRet (mVar 0))))))))
noncomputable def b_test_list : MS :=
  (sSeq (sSet 1 (mLst true aNil))
  (sSeq (sSet 2 (mLst true (aCons (mVar 0) aNil)))
  (sSeq (sWhile (tVal (mVar 2))
  (sSeq (sSet 3 (mMt kPop (mVar 2) aNil))
  (sIf (tCmp (mOp (dIn false) (mOp dIx (mVar 3) (mC (.int 0))) (mTup (aCons (mC (.str [110, 111, 116])) (aCons (mC (.str [97, 110, 100])) (aCons (mC (.str [111, 114])) aNil))))))
  (sExpr (mMt kExtend (mVar 2) (aCons (mB (gList false) (aCons (mCut false (mVar 3) (pYes (mC (.int 1))) pNo) aNil)) aNil)))
  (sIf (tCmp (mOp (dIn true) (mOp dIx (mVar 3) (mC (.int 0))) (mTup (aCons (mC (.str [97, 108, 108])) (aCons (mC (.str [110, 111, 110, 101])) aNil)))))
  (sExpr (mMt kAppend (mVar 1) (aCons (mVar 3) aNil)))
  sNil))))
  (sRet (mVar 1)))))
noncomputable def b_without_repeats : MS :=
  (sSeq (sSet 1 (mLst true aNil))
  (sSeq (sFor (iVal (mB (gSorted false) (aCons (mVar 0) aNil))) (.nm 2)
  (sIf (tOr (tNot (tVal (mVar 1))) (tCmp (mOp (dEq true) (mOp dIx (mVar 1) (mUn dNeg (mC (.int 1)))) (mVar 2))))
  (sExpr (mMt kAppend (mVar 1) (aCons (mVar 2) aNil)))
  sNil))
  (sRet (mB gTuple (aCons (mVar 1) aNil)))))
noncomputable def b_tests_of : MS :=
  (sRet (mCall 5 (aCons (mCall 4 (aCons (mVar 0) aNil)) aNil)))
noncomputable def b_indexed : MS :=
  (sSeq (sSet 2 (mOp dIx (mVar 0) (mC (.int 0))))
  (sSeq (sIf (tCmp (mOp (dIn false) (mVar 2) (mTup (aCons (mC (.str [97, 108, 108])) (aCons (mC (.str [110, 111, 110, 101])) aNil)))))
  (sRet (mVar 0))
  sNil)
  (sSeq (sIf (tCmp (mOp (dEq false) (mVar 2) (mC (.str [110, 111, 116]))))
  (sRet (mTup (aCons (mC (.str [110, 111, 116])) (aCons (mCall 7 (aCons (mOp dIx (mVar 0) (mC (.int 1))) (aCons (mVar 1) aNil))) aNil))))
  sNil)
  (sSeq (sIf (tCmp (mOp (dIn false) (mVar 2) (mTup (aCons (mC (.str [97, 110, 100])) (aCons (mC (.str [111, 114])) aNil)))))
  (sRet (mTup (aCons (mVar 2) (aCons (mCall 7 (aCons (mOp dIx (mVar 0) (mC (.int 1))) (aCons (mVar 1) aNil))) (aCons (mCall 7 (aCons (mOp dIx (mVar 0) (mC (.int 2))) (aCons (mVar 1) aNil))) aNil)))))
  sNil)
  (sRet (mTup (aCons (mC (.str [116, 101, 115, 116])) (aCons (mMt kIndex (mVar 1) (aCons (mVar 0) aNil)) aNil))))))))
noncomputable def b_indexed_value : MS :=
  (sSeq (sSet 2 (mOp dIx (mVar 0) (mC (.int 0))))
  (sSeq (sIf (tCmp (mOp (dEq false) (mVar 2) (mC (.str [116, 101, 115, 116]))))
  (sRet (mMt kGet (mVar 1) (aCons (mOp dIx (mVar 0) (mC (.int 1))) aNil)))
  sNil)
  (sSeq (sIf (tCmp (mOp (dEq false) (mVar 2) (mC (.str [110, 111, 116]))))
  (sSeq (sSet 6 (mCall 8 (aCons (mOp dIx (mVar 0) (mC (.int 1))) (aCons (mVar 1) aNil))))
  (sRet (mIf (tCmp (mUn (dIsN false) (mVar 6))) (mC .non) (mUn dNot (mVar 6)))))
  sNil)
  (sSeq (sIf (tCmp (mOp (dIn false) (mVar 2) (mTup (aCons (mC (.str [97, 108, 108])) (aCons (mC (.str [110, 111, 110, 101])) aNil)))))
  (sRet (mOp (dEq false) (mVar 2) (mC (.str [97, 108, 108]))))
  sNil)
  (sSeq (sSet 3 (mCall 8 (aCons (mOp dIx (mVar 0) (mC (.int 1))) (aCons (mVar 1) aNil))))
  (sSeq (sSet 4 (mCall 8 (aCons (mOp dIx (mVar 0) (mC (.int 2))) (aCons (mVar 1) aNil))))
  (sSeq (sSet 5 (mOp (dEq false) (mVar 2) (mC (.str [111, 114]))))
  (sSeq (sIf (tOr (tCmp (mOp (dEq false) (mVar 3) (mVar 5))) (tCmp (mOp (dEq false) (mVar 4) (mVar 5))))
  (sRet (mVar 5))
  sNil)
  (sSeq (sIf (tOr (tCmp (mUn (dIsN false) (mVar 3))) (tCmp (mUn (dIsN false) (mVar 4))))
  (sRet (mC .non))
  sNil)
  (sRet (mUn dNot (mVar 5))))))))))))
noncomputable def b_value_under : MS :=
  (sSeq (sSet 2 (mCall 6 (aCons (mVar 0) aNil)))
  (sSeq (sSet 3 mDict0)
  (sSeq (sFor (iVal (mVar 1)) (.tp [4, 5])
  (sIf (tCmp (mOp (dIn false) (mVar 4) (mVar 2)))
  (sPut (mVar 3) (mMt kIndex (mVar 2) (aCons (mVar 4) aNil)) (mVar 5))
  sNil))
  (sRet (mCall 8 (aCons (mCall 7 (aCons (mVar 0) (aCons (mVar 2) aNil))) (aCons (mVar 3) aNil)))))))
noncomputable def b__law_deck : MS :=
  (sSeq (sIf (tCmp (mOp dGe (mVar 0) (mOp dPow (mC (.int 10)) (mC (.int 18)))))
  (sRet (mLst true (aCons (mOp dSub (mVar 0) (mOp dPow (mC (.int 10)) (mC (.int 18)))) (aCons (mUn dNeg (mC (.int 1))) aNil))))
  sNil)
  (sRet (mLst true (aCons (mOp dMod (mB gInt (aCons (mOp (dAdd false) (mOp (dMul false) (mOp dMod (mB gInt (aCons (mVar 0) aNil)) (mC (.int 2147483647))) (mC (.int 69621))) (mC (.int 1009))) aNil)) (mC (.int 2147483647))) (aCons (mC (.int 0)) aNil)))))
noncomputable def b__law_decks : MS :=
  (sSeq (sSet 1 (mComp true (iVal (mCut false (mVar 0) pNo (pYes (mC (.int 63))))) (.nm 3) [3] tYesM (mB gInt (aCons (mVar 3) aNil))))
  (sSeq (sSet 2 (mC (.int 7)))
  (sSeq (sFor (iVal (mVar 1)) (.nm 3)
  (sSet 2 (mOp dMod (mB gInt (aCons (mOp (dAdd false) (mOp (dAdd false) (mOp (dMul false) (mVar 2) (mC (.int 48271))) (mOp dMod (mB gInt (aCons (mVar 3) aNil)) (mC (.int 1000003)))) (mC (.int 11))) aNil)) (mC (.int 2147483647)))))
  (sSeq (sSet 4 (mOp dSub (mC (.int 63)) (mB gLen (aCons (mVar 1) aNil))))
  (sSeq (sFor (iRng1 (mVar 4)) (.nm 5)
  (sSeq (sSet 2 (mOp dMod (mB gInt (aCons (mOp (dAdd false) (mOp (dAdd false) (mOp (dMul false) (mVar 2) (mC (.int 48271))) (mOp (dMul false) (mVar 5) (mC (.int 69621)))) (mC (.int 5))) aNil)) (mC (.int 2147483647))))
  (sExpr (mMt kAppend (mVar 1) (aCons (mVar 2) aNil)))))
  (sRet (mComp false (iVal (mVar 1)) (.nm 3) [3] tYesM (mCall 10 (aCons (mVar 3) aNil)))))))))
noncomputable def b__law_draw : MS :=
  (sSeq (sIf (tCmp (mOp dLt (mOp dIx (mVar 0) (mC (.int 1))) (mC (.int 0))))
  (sSeq (sSet 2 (mOp dMod (mB gInt (aCons (mOp dIx (mVar 0) (mC (.int 0))) aNil)) (mVar 1)))
  (sSeq (sSub (mVar 0) (mC (.int 0)) (mOp dDiv (mOp dIx (mVar 0) (mC (.int 0))) (mVar 1)))
  (sRet (mVar 2))))
  sNil)
  (sSeq (sSub (mVar 0) (mC (.int 1)) (mOp (dAdd false) (mOp dIx (mVar 0) (mC (.int 1))) (mC (.int 1))))
  (sSeq (sSub (mVar 0) (mC (.int 0)) (mOp dMod (mB gInt (aCons (mOp (dAdd false) (mOp (dAdd false) (mOp (dMul false) (mOp dIx (mVar 0) (mC (.int 0))) (mC (.int 48271))) (mOp (dMul false) (mOp dIx (mVar 0) (mC (.int 1))) (mC (.int 69621)))) (mC (.int 12345))) aNil)) (mC (.int 2147483647))))
  (sRet (mOp dMod (mB gInt (aCons (mOp dDiv (mOp dIx (mVar 0) (mC (.int 0))) (mC (.int 7))) aNil)) (mVar 1))))))
noncomputable def b__law_names : MS :=
  (sSeq (sSet 1 (mC (.str [97, 98, 99, 100, 101, 102, 103, 104, 105, 106, 107, 108, 109, 110, 111, 112, 113, 114, 115, 116, 117, 118, 119, 120, 121, 122])))
  (sSeq (sSet 2 (mLst true aNil))
  (sSeq (sFor (iVal (mVar 0)) (.nm 3)
  (sFor (iRng1 (mC (.int 3))) (.nm 4)
  (sSeq (sSet 5 (mOp (dAdd false) (mC (.int 1)) (mCall 12 (aCons (mVar 3) (aCons (mC (.int 12)) aNil)))))
  (sSeq (sIf (tCmp (mOp (dEq false) (mCall 12 (aCons (mVar 3) (aCons (mC (.int 2)) aNil))) (mC (.int 0))))
  (sSet 5 (mOp (dAdd false) (mC (.int 1)) (mOp dDiv (mVar 5) (mC (.int 6)))))
  sNil)
  (sSeq (sSet 6 (mMt kJoin (mC (.str [])) (aCons (mComp false (iRng1 (mVar 5)) (.nm 7) [7] tYesM (mOp dIx (mVar 1) (mCall 12 (aCons (mVar 3) (aCons (mC (.int 26)) aNil))))) aNil)))
  (sSeq (sIf (tCmp (mOp (dIn false) (mVar 6) (mVar 2)))
  (sSet 6 (mOp dIx (mComp false (iVal (mVar 1)) (.nm 8) [8] (tCmp (mOp (dIn true) (mVar 8) (mVar 2))) (mVar 8)) (mC (.int 0))))
  sNil)
  (sExpr (mMt kAppend (mVar 2) (aCons (mVar 6) aNil)))))))))
  (sRet (mVar 2)))))
noncomputable def b__law_leaf : MS :=
  (sSeq (sSet 2 (mCall 12 (aCons (mVar 0) (aCons (mC (.int 8)) aNil))))
  (sSeq (sIf (tCmp (mOp dLt (mVar 2) (mC (.int 2))))
  (sRet (mTup (aCons (mOp dIx (mLst false (aCons (mC (.str [99, 108, 111, 115, 101, 100])) (aCons (mC (.str [111, 119, 110, 101, 100])) (aCons (mC (.str [97, 108, 108])) (aCons (mC (.str [110, 111, 110, 101])) (aCons (mC (.str [99, 108, 111, 115, 101, 100])) (aCons (mC (.str [111, 119, 110, 101, 100])) aNil))))))) (mCall 12 (aCons (mVar 0) (aCons (mC (.int 6)) aNil)))) aNil)))
  sNil)
  (sSeq (sIf (tCmp (mOp dLt (mVar 2) (mC (.int 5))))
  (sSeq (sSet 3 (mOp dIx (mLst false (aCons (mC (.str [115, 116, 97, 116, 101])) (aCons (mC (.str [108, 97, 98, 101, 108])) (aCons (mC (.str [111, 119, 110, 101, 114])) (aCons (mC (.str [107, 105, 110, 100])) (aCons (mC (.str [115, 116, 97, 116, 101])) (aCons (mC (.str [108, 97, 98, 101, 108])) aNil))))))) (mCall 12 (aCons (mVar 0) (aCons (mC (.int 6)) aNil)))))
  (sRet (mTup (aCons (mC (.str [105, 115])) (aCons (mVar 3) (aCons (mOp dIx (mVar 1) (mCall 12 (aCons (mVar 0) (aCons (mC (.int 6)) aNil)))) aNil))))))
  sNil)
  (sSeq (sSet 3 (mOp dIx (mLst false (aCons (mC (.str [112, 114, 105, 111, 114, 105, 116, 121])) (aCons (mC (.str [112, 111, 105, 110, 116, 115])) aNil))) (mCall 12 (aCons (mVar 0) (aCons (mC (.int 2)) aNil)))))
  (sSeq (sSet 4 (mOp dIx (mLst false (aCons (mC (.str [61])) (aCons (mC (.str [60])) (aCons (mC (.str [62])) (aCons (mC (.str [60, 61])) (aCons (mC (.str [62, 61])) aNil)))))) (mCall 12 (aCons (mVar 0) (aCons (mC (.int 5)) aNil)))))
  (sSeq (sSet 5 (mLst false (aCons (mCall 12 (aCons (mVar 0) (aCons (mC (.int 6)) aNil))) (aCons (mCall 12 (aCons (mVar 0) (aCons (mC (.int 23)) aNil))) (aCons (mOp dIx (mLst false (aCons (mC (.int 99)) (aCons (mCall 12 (aCons (mVar 0) (aCons (mC (.int 100)) aNil))) aNil))) (mCall 12 (aCons (mVar 0) (aCons (mC (.int 2)) aNil)))) aNil)))))
  (sRet (mTup (aCons (mC (.str [110, 117, 109])) (aCons (mVar 3) (aCons (mVar 4) (aCons (mOp dIx (mVar 5) (mCall 12 (aCons (mVar 0) (aCons (mC (.int 3)) aNil)))) aNil))))))))))))
noncomputable def b__law_code : MS :=
  (sSeq (sSet 3 (mLst true aNil))
  (sSeq (sSet 4 (mC (.int 0)))
  (sSeq (sSet 5 (mC (.int 0)))
  (sSeq (sFor (iVal (mVar 0)) (.nm 6)
  (sSeq (sSet 8 (mCall 12 (aCons (mVar 6) (aCons (mC (.int 8)) aNil))))
  (sIf (tAnd (tCmp (mOp dGe (mVar 8) (mC (.int 6)))) (tCmp (mOp dGe (mVar 4) (mC (.int 2)))))
  (sSeq (sExpr (mMt kAppend (mVar 3) (aCons (mTup (aCons (mOp dIx (mLst false (aCons (mC (.str [97, 110, 100])) (aCons (mC (.str [111, 114])) aNil))) (mCall 12 (aCons (mVar 6) (aCons (mC (.int 2)) aNil)))) aNil)) aNil)))
  (sSet 4 (mOp dSub (mVar 4) (mC (.int 1)))))
  (sIf (tAnd (tCmp (mOp dGe (mVar 8) (mC (.int 4)))) (tAnd (tCmp (mOp dGe (mVar 4) (mC (.int 1)))) (tCmp (mOp dLt (mVar 5) (mVar 2)))))
  (sSeq (sSet 9 (mOp dIx (mLst false (aCons (mC (.str [98, 108, 111, 99, 107, 101, 114])) (aCons (mC (.str [99, 104, 105, 108, 100])) (aCons (mC (.str [111, 114, 105, 103, 105, 110, 97, 108])) aNil)))) (mCall 12 (aCons (mVar 6) (aCons (mC (.int 3)) aNil)))))
  (sSeq (sExpr (mMt kAppend (mVar 3) (aCons (mTup (aCons (mOp dIx (mLst false (aCons (mC (.str [115, 111, 109, 101])) (aCons (mC (.str [101, 118, 101, 114, 121])) aNil))) (mCall 12 (aCons (mVar 6) (aCons (mC (.int 2)) aNil)))) (aCons (mVar 9) aNil))) aNil)))
  (sSet 5 (mOp (dAdd false) (mVar 5) (mC (.int 1))))))
  (sIf (tAnd (tCmp (mOp (dEq false) (mVar 8) (mC (.int 3)))) (tCmp (mOp dGe (mVar 4) (mC (.int 1)))))
  (sExpr (mMt kAppend (mVar 3) (aCons (mTup (aCons (mC (.str [110, 111, 116])) aNil)) aNil)))
  (sSeq (sExpr (mMt kAppend (mVar 3) (aCons (mCall 14 (aCons (mVar 6) (aCons (mVar 1) aNil))) aNil)))
  (sSet 4 (mOp (dAdd false) (mVar 4) (mC (.int 1))))))))))
  (sSeq (sFor (iRng1 (mOp dSub (mVar 4) (mC (.int 1)))) (.nm 7)
  (sExpr (mMt kAppend (mVar 3) (aCons (mTup (aCons (mOp dIx (mLst false (aCons (mC (.str [97, 110, 100])) (aCons (mC (.str [111, 114])) aNil))) (mOp dMod (mVar 7) (mC (.int 2)))) aNil)) aNil))))
  (sRet (mVar 3)))))))
noncomputable def b__law_tree : MS :=
  (sSeq (sSet 1 (mLst true aNil))
  (sSeq (sFor (iVal (mVar 0)) (.nm 2)
  (sIf (tCmp (mOp (dIn false) (mOp dIx (mVar 2) (mC (.int 0))) (mTup (aCons (mC (.str [97, 110, 100])) (aCons (mC (.str [111, 114])) aNil)))))
  (sSeq (sSet 3 (mMt kPop (mVar 1) aNil))
  (sSeq (sSet 4 (mMt kPop (mVar 1) aNil))
  (sExpr (mMt kAppend (mVar 1) (aCons (mTup (aCons (mOp dIx (mVar 2) (mC (.int 0))) (aCons (mVar 4) (aCons (mVar 3) aNil)))) aNil)))))
  (sIf (tCmp (mOp (dIn false) (mOp dIx (mVar 2) (mC (.int 0))) (mTup (aCons (mC (.str [110, 111, 116])) (aCons (mC (.str [115, 111, 109, 101])) (aCons (mC (.str [101, 118, 101, 114, 121])) aNil))))))
  (sSeq (sSet 5 (mMt kPop (mVar 1) aNil))
  (sExpr (mMt kAppend (mVar 1) (aCons (mOp (dAdd false) (mVar 2) (mTup (aCons (mVar 5) aNil))) aNil))))
  (sExpr (mMt kAppend (mVar 1) (aCons (mVar 2) aNil))))))
  (sRet (mOp dIx (mVar 1) (mC (.int 0))))))
noncomputable def b__law_test : MS :=
  (sSeq (sIf (tCmp (mOp (dEq false) (mOp dIx (mVar 0) (mC (.int 0))) (mC (.str [99, 108, 111, 115, 101, 100]))))
  (sRet (mOp dIx (mVar 1) (mC (.int 2))))
  sNil)
  (sSeq (sIf (tCmp (mOp (dEq false) (mOp dIx (mVar 0) (mC (.int 0))) (mC (.str [111, 119, 110, 101, 100]))))
  (sRet (mOp (dEq true) (mOp dIx (mVar 1) (mC (.int 3))) (mC (.str []))))
  sNil)
  (sSeq (sIf (tCmp (mOp (dEq false) (mOp dIx (mVar 0) (mC (.int 0))) (mC (.str [105, 115]))))
  (sSeq (sIf (tCmp (mOp (dEq false) (mOp dIx (mVar 0) (mC (.int 1))) (mC (.str [108, 97, 98, 101, 108]))))
  (sRet (mOp (dIn false) (mOp dIx (mVar 0) (mC (.int 2))) (mOp dIx (mVar 1) (mC (.int 6)))))
  sNil)
  (sRet (mOp (dEq false) (mOp dIx (mVar 1) (mMt kIndex (mLst false (aCons (mC (.str [107, 105, 110, 100])) (aCons (mC (.str [115, 116, 97, 116, 101])) (aCons (mC (.str [99, 108, 111, 115, 101, 100])) (aCons (mC (.str [111, 119, 110, 101, 114])) aNil))))) (aCons (mOp dIx (mVar 0) (mC (.int 1))) aNil))) (mOp dIx (mVar 0) (mC (.int 2))))))
  sNil)
  (sSeq (sIf (tCmp (mOp (dEq false) (mOp dIx (mVar 0) (mC (.int 0))) (mC (.str [110, 117, 109]))))
  (sSeq (sSet 2 (mOp dIx (mVar 1) (mC (.int 4))))
  (sSeq (sIf (tCmp (mOp (dEq false) (mOp dIx (mVar 0) (mC (.int 1))) (mC (.str [112, 111, 105, 110, 116, 115]))))
  (sSet 2 (mOp dIx (mVar 1) (mC (.int 5))))
  sNil)
  (sSeq (sSet 3 (mLst false (aCons (mOp (dEq false) (mVar 2) (mOp dIx (mVar 0) (mC (.int 3)))) (aCons (mOp dLt (mVar 2) (mOp dIx (mVar 0) (mC (.int 3)))) (aCons (mOp dGt (mVar 2) (mOp dIx (mVar 0) (mC (.int 3)))) (aCons (mOp dLe (mVar 2) (mOp dIx (mVar 0) (mC (.int 3)))) (aCons (mOp dGe (mVar 2) (mOp dIx (mVar 0) (mC (.int 3)))) aNil)))))))
  (sRet (mOp dIx (mVar 3) (mMt kIndex (mLst false (aCons (mC (.str [61])) (aCons (mC (.str [60])) (aCons (mC (.str [62])) (aCons (mC (.str [60, 61])) (aCons (mC (.str [62, 61])) aNil)))))) (aCons (mOp dIx (mVar 0) (mC (.int 2))) aNil)))))))
  sNil)
  (sRet (mOp (dEq false) (mOp dIx (mVar 0) (mC (.int 0))) (mC (.str [97, 108, 108]))))))))
noncomputable def b__law_truths : MS :=
  (sSeq (sSet 3 (mLst true aNil))
  (sSeq (sFor (iVal (mVar 0)) (.nm 4)
  (sIf (tCmp (mOp (dIn false) (mOp dIx (mVar 4) (mC (.int 0))) (mTup (aCons (mC (.str [97, 110, 100])) (aCons (mC (.str [111, 114])) aNil)))))
  (sSeq (sSet 5 (mMt kPop (mVar 3) aNil))
  (sSeq (sSet 6 (mMt kPop (mVar 3) aNil))
  (sIf (tCmp (mOp (dEq false) (mOp dIx (mVar 4) (mC (.int 0))) (mC (.str [97, 110, 100]))))
  (sExpr (mMt kAppend (mVar 3) (aCons (mComp false (iRng1 (mB gLen (aCons (mVar 1) aNil))) (.nm 12) [12] tYesM (mAnd (mOp dIx (mVar 6) (mVar 12)) (mOp dIx (mVar 5) (mVar 12)))) aNil)))
  (sExpr (mMt kAppend (mVar 3) (aCons (mComp false (iRng1 (mB gLen (aCons (mVar 1) aNil))) (.nm 12) [12] tYesM (mOr (mOp dIx (mVar 6) (mVar 12)) (mOp dIx (mVar 5) (mVar 12)))) aNil))))))
  (sIf (tCmp (mOp (dEq false) (mOp dIx (mVar 4) (mC (.int 0))) (mC (.str [110, 111, 116]))))
  (sSeq (sSet 7 (mMt kPop (mVar 3) aNil))
  (sExpr (mMt kAppend (mVar 3) (aCons (mComp false (iRng1 (mB gLen (aCons (mVar 1) aNil))) (.nm 12) [12] tYesM (mUn dNot (mOp dIx (mVar 7) (mVar 12)))) aNil))))
  (sIf (tCmp (mOp (dIn false) (mOp dIx (mVar 4) (mC (.int 0))) (mTup (aCons (mC (.str [115, 111, 109, 101])) (aCons (mC (.str [101, 118, 101, 114, 121])) aNil)))))
  (sSeq (sSet 7 (mMt kPop (mVar 3) aNil))
  (sSeq (sSet 8 (mMt kIndex (mLst false (aCons (mC (.str [98, 108, 111, 99, 107, 101, 114])) (aCons (mC (.str [99, 104, 105, 108, 100])) (aCons (mC (.str [111, 114, 105, 103, 105, 110, 97, 108])) aNil)))) (aCons (mOp dIx (mVar 4) (mC (.int 1))) aNil)))
  (sSeq (sSet 9 (mLst true aNil))
  (sSeq (sFor (iVal (mVar 2)) (.nm 10)
  (sSeq (sSet 11 (mComp false (iVal (mOp dIx (mVar 10) (mVar 8))) (.nm 13) [13] tYesM (mOp dIx (mVar 7) (mVar 13))))
  (sIf (tCmp (mOp (dEq false) (mOp dIx (mVar 4) (mC (.int 0))) (mC (.str [115, 111, 109, 101]))))
  (sExpr (mMt kAppend (mVar 9) (aCons (mOp (dIn false) (mC (.bl true)) (mVar 11)) aNil)))
  (sExpr (mMt kAppend (mVar 9) (aCons (mOp (dIn true) (mC (.bl false)) (mVar 11)) aNil))))))
  (sExpr (mMt kAppend (mVar 3) (aCons (mVar 9) aNil)))))))
  (sExpr (mMt kAppend (mVar 3) (aCons (mComp false (iVal (mVar 1)) (.nm 14) [14] tYesM (mCall 17 (aCons (mVar 4) (aCons (mVar 14) aNil)))) aNil)))))))
  (sRet (mOp dIx (mVar 3) (mC (.int 0))))))
noncomputable def b__law_least : MS :=
  (sSeq (sIf (tCmp (mOp dLe (mVar 1) (mC (.int 0))))
  (sRet (mTup (aCons (mC (.str [97, 108, 108])) aNil)))
  sNil)
  (sSeq (sIf (tOr (tCmp (mOp dGt (mVar 1) (mC (.int 20)))) (tAnd (tCmp (mOp (dEq false) (mVar 0) (mC (.str [112, 114, 105, 111, 114, 105, 116, 121])))) (tCmp (mOp dGt (mVar 1) (mC (.int 4))))))
  (sRet (mTup (aCons (mC (.str [110, 111, 110, 101])) aNil)))
  sNil)
  (sRet (mTup (aCons (mC (.str [108, 101, 97, 115, 116])) (aCons (mVar 0) (aCons (mVar 1) aNil)))))))
noncomputable def b__law_core : MS :=
  (sSeq (sSet 1 (mLst true aNil))
  (sSeq (sFor (iVal (mVar 0)) (.nm 2)
  (sSeq (sSet 3 (mOp dIx (mVar 2) (mC (.int 0))))
  (sIf (tCmp (mOp (dIn false) (mVar 3) (mTup (aCons (mC (.str [97, 110, 100])) (aCons (mC (.str [111, 114])) aNil)))))
  (sSeq (sSet 4 (mMt kPop (mVar 1) aNil))
  (sSeq (sSet 5 (mMt kPop (mVar 1) aNil))
  (sExpr (mMt kAppend (mVar 1) (aCons (mTup (aCons (mVar 3) (aCons (mVar 5) (aCons (mVar 4) aNil)))) aNil)))))
  (sIf (tCmp (mOp (dEq false) (mVar 3) (mC (.str [101, 118, 101, 114, 121]))))
  (sSeq (sSet 6 (mMt kPop (mVar 1) aNil))
  (sExpr (mMt kAppend (mVar 1) (aCons (mTup (aCons (mC (.str [110, 111, 116])) (aCons (mTup (aCons (mC (.str [115, 111, 109, 101])) (aCons (mOp dIx (mVar 2) (mC (.int 1))) (aCons (mTup (aCons (mC (.str [110, 111, 116])) (aCons (mVar 6) aNil))) aNil)))) aNil))) aNil))))
  (sIf (tCmp (mOp (dIn false) (mVar 3) (mTup (aCons (mC (.str [110, 111, 116])) (aCons (mC (.str [115, 111, 109, 101])) aNil)))))
  (sSeq (sSet 6 (mMt kPop (mVar 1) aNil))
  (sExpr (mMt kAppend (mVar 1) (aCons (mOp (dAdd false) (mVar 2) (mTup (aCons (mVar 6) aNil))) aNil))))
  (sIf (tCmp (mOp (dEq false) (mVar 3) (mC (.str [110, 117, 109]))))
  (sSeq (sSet 7 (mCall 19 (aCons (mOp dIx (mVar 2) (mC (.int 1))) (aCons (mOp dIx (mVar 2) (mC (.int 3))) aNil))))
  (sSeq (sSet 8 (mCall 19 (aCons (mOp dIx (mVar 2) (mC (.int 1))) (aCons (mOp (dAdd false) (mOp dIx (mVar 2) (mC (.int 3))) (mC (.int 1))) aNil))))
  (sSeq (sSet 9 (mLst false (aCons (mTup (aCons (mC (.str [97, 110, 100])) (aCons (mVar 7) (aCons (mTup (aCons (mC (.str [110, 111, 116])) (aCons (mVar 8) aNil))) aNil)))) (aCons (mTup (aCons (mC (.str [110, 111, 116])) (aCons (mVar 7) aNil))) (aCons (mVar 8) (aCons (mTup (aCons (mC (.str [110, 111, 116])) (aCons (mVar 8) aNil))) (aCons (mVar 7) aNil)))))))
  (sExpr (mMt kAppend (mVar 1) (aCons (mOp dIx (mVar 9) (mMt kIndex (mLst false (aCons (mC (.str [61])) (aCons (mC (.str [60])) (aCons (mC (.str [62])) (aCons (mC (.str [60, 61])) (aCons (mC (.str [62, 61])) aNil)))))) (aCons (mOp dIx (mVar 2) (mC (.int 2))) aNil))) aNil))))))
  (sExpr (mMt kAppend (mVar 1) (aCons (mVar 2) aNil)))))))))
  (sRet (mOp dIx (mVar 1) (mC (.int 0))))))
noncomputable def b__law_tests : MS :=
  (sSeq (sSet 1 (mB (gList true) (aCons (mVar 0) aNil)))
  (sSeq (sSet 2 (mLst true aNil))
  (sSeq (sFor (iRng1 (mC (.int 2000))) (.nm 3)
  (sSeq (sIf (tCmp (mOp (dEq false) (mB gLen (aCons (mVar 1) aNil)) (mC (.int 0))))
  sBreak
  sNil)
  (sSeq (sSet 4 (mMt kPop (mVar 1) aNil))
  (sIf (tCmp (mOp (dIn false) (mOp dIx (mVar 4) (mC (.int 0))) (mTup (aCons (mC (.str [97, 110, 100])) (aCons (mC (.str [111, 114])) aNil)))))
  (sSeq (sExpr (mMt kAppend (mVar 1) (aCons (mOp dIx (mVar 4) (mC (.int 1))) aNil)))
  (sExpr (mMt kAppend (mVar 1) (aCons (mOp dIx (mVar 4) (mC (.int 2))) aNil))))
  (sIf (tCmp (mOp (dEq false) (mOp dIx (mVar 4) (mC (.int 0))) (mC (.str [110, 111, 116]))))
  (sExpr (mMt kAppend (mVar 1) (aCons (mOp dIx (mVar 4) (mC (.int 1))) aNil)))
  (sIf (tAnd (tCmp (mOp (dIn true) (mOp dIx (mVar 4) (mC (.int 0))) (mTup (aCons (mC (.str [97, 108, 108])) (aCons (mC (.str [110, 111, 110, 101])) aNil))))) (tCmp (mOp (dIn true) (mVar 4) (mVar 2))))
  (sExpr (mMt kAppend (mVar 2) (aCons (mVar 4) aNil)))
  sNil))))))
  (sRet (mB (gSorted false) (aCons (mVar 2) aNil))))))
noncomputable def b__law_value : MS :=
  (sSeq (sSet 2 (mLst true aNil))
  (sSeq (sSet 3 (mLst true (aCons (mVar 0) aNil)))
  (sSeq (sFor (iRng1 (mC (.int 2000))) (.nm 4)
  (sSeq (sIf (tCmp (mOp (dEq false) (mB gLen (aCons (mVar 3) aNil)) (mC (.int 0))))
  sBreak
  sNil)
  (sSeq (sSet 6 (mMt kPop (mVar 3) aNil))
  (sSeq (sExpr (mMt kAppend (mVar 2) (aCons (mVar 6) aNil)))
  (sIf (tCmp (mOp (dIn false) (mOp dIx (mVar 6) (mC (.int 0))) (mTup (aCons (mC (.str [97, 110, 100])) (aCons (mC (.str [111, 114])) aNil)))))
  (sSeq (sExpr (mMt kAppend (mVar 3) (aCons (mOp dIx (mVar 6) (mC (.int 1))) aNil)))
  (sExpr (mMt kAppend (mVar 3) (aCons (mOp dIx (mVar 6) (mC (.int 2))) aNil))))
  (sIf (tCmp (mOp (dEq false) (mOp dIx (mVar 6) (mC (.int 0))) (mC (.str [110, 111, 116]))))
  (sExpr (mMt kAppend (mVar 3) (aCons (mOp dIx (mVar 6) (mC (.int 1))) aNil)))
  sNil))))))
  (sSeq (sSet 5 (mLst true aNil))
  (sSeq (sFor (iRevV (mVar 2)) (.nm 6)
  (sIf (tCmp (mOp (dEq false) (mOp dIx (mVar 6) (mC (.int 0))) (mC (.str [110, 111, 116]))))
  (sSeq (sSet 7 (mMt kPop (mVar 5) aNil))
  (sSeq (sIf (tCmp (mUn (dIsN true) (mVar 7)))
  (sSet 7 (mUn dNot (mVar 7)))
  sNil)
  (sExpr (mMt kAppend (mVar 5) (aCons (mVar 7) aNil)))))
  (sIf (tCmp (mOp (dIn false) (mOp dIx (mVar 6) (mC (.int 0))) (mTup (aCons (mC (.str [97, 110, 100])) (aCons (mC (.str [111, 114])) aNil)))))
  (sSeq (sSet 8 (mLst false (aCons (mMt kPop (mVar 5) aNil) (aCons (mMt kPop (mVar 5) aNil) aNil))))
  (sIf (tCmp (mOp (dIn false) (mOp (dEq false) (mOp dIx (mVar 6) (mC (.int 0))) (mC (.str [111, 114]))) (mVar 8)))
  (sExpr (mMt kAppend (mVar 5) (aCons (mOp (dEq false) (mOp dIx (mVar 6) (mC (.int 0))) (mC (.str [111, 114]))) aNil)))
  (sIf (tCmp (mOp (dIn false) (mC .non) (mVar 8)))
  (sExpr (mMt kAppend (mVar 5) (aCons (mC .non) aNil)))
  (sExpr (mMt kAppend (mVar 5) (aCons (mOp (dEq false) (mOp dIx (mVar 6) (mC (.int 0))) (mC (.str [97, 110, 100]))) aNil))))))
  (sIf (tCmp (mOp (dIn false) (mOp dIx (mVar 6) (mC (.int 0))) (mTup (aCons (mC (.str [97, 108, 108])) (aCons (mC (.str [110, 111, 110, 101])) aNil)))))
  (sExpr (mMt kAppend (mVar 5) (aCons (mOp (dEq false) (mOp dIx (mVar 6) (mC (.int 0))) (mC (.str [97, 108, 108]))) aNil)))
  (sSeq (sSet 9 (mComp false (iVal (mVar 1)) (.nm 10) [10] (tCmp (mOp (dEq false) (mOp dIx (mVar 10) (mC (.int 0))) (mVar 6))) (mOp dIx (mVar 10) (mC (.int 1)))))
  (sExpr (mMt kAppend (mVar 5) (aCons (mOp dIx (mOp (dAdd false) (mVar 9) (mLst false (aCons (mC .non) aNil))) (mC (.int 0))) aNil))))))))
  (sRet (mOp dIx (mVar 5) (mC (.int 0)))))))))
noncomputable def b__law_is_same : MS :=
  (sSeq (sSet 2 (mLst true (aCons (mLst false (aCons (mVar 0) (aCons (mVar 1) aNil))) aNil)))
  (sSeq (sFor (iRng1 (mC (.int 2000))) (.nm 3)
  (sSeq (sIf (tCmp (mOp (dEq false) (mB gLen (aCons (mVar 2) aNil)) (mC (.int 0))))
  (sRet (mC (.bl true)))
  sNil)
  (sSeq (sSet 4 (mMt kPop (mVar 2) aNil))
  (sIf (tVal (mUn (dIs .tuple) (mOp dIx (mVar 4) (mC (.int 1)))))
  (sSeq (sIf (tOr (tNot (tVal (mUn (dIs .tuple) (mOp dIx (mVar 4) (mC (.int 0)))))) (tCmp (mOp (dEq true) (mB gLen (aCons (mOp dIx (mVar 4) (mC (.int 0))) aNil)) (mB gLen (aCons (mOp dIx (mVar 4) (mC (.int 1))) aNil)))))
  (sRet (mC (.bl false)))
  sNil)
  (sExpr (mMt kExtend (mVar 2) (aCons (mComp false (iRng1 (mB gLen (aCons (mOp dIx (mVar 4) (mC (.int 1))) aNil))) (.nm 5) [5] tYesM (mLst false (aCons (mOp dIx (mOp dIx (mVar 4) (mC (.int 0))) (mVar 5)) (aCons (mOp dIx (mOp dIx (mVar 4) (mC (.int 1))) (mVar 5)) aNil)))) aNil))))
  (sIf (tVal (mUn (dIs .str) (mOp dIx (mVar 4) (mC (.int 1)))))
  (sIf (tOr (tNot (tVal (mUn (dIs .str) (mOp dIx (mVar 4) (mC (.int 0)))))) (tCmp (mOp (dEq true) (mOp dIx (mVar 4) (mC (.int 0))) (mOp dIx (mVar 4) (mC (.int 1))))))
  (sRet (mC (.bl false)))
  sNil)
  (sIf (tOr (tNot (tVal (mUn (dIs .int) (mOp dIx (mVar 4) (mC (.int 0)))))) (tOr (tVal (mUn (dIs .bool) (mOp dIx (mVar 4) (mC (.int 0))))) (tCmp (mOp (dEq true) (mOp dIx (mVar 4) (mC (.int 0))) (mOp dIx (mVar 4) (mC (.int 1)))))))
  (sRet (mC (.bl false)))
  sNil))))))
  (sRet (mC (.bl false)))))
noncomputable def b__law_known : MS :=
  (sSeq (sSet 2 (mLst true aNil))
  (sSeq (sFor (iVal (mVar 0)) (.nm 3)
  (sSeq (sSet 5 (mCall 12 (aCons (mVar 1) (aCons (mC (.int 3)) aNil))))
  (sIf (tCmp (mOp dGt (mVar 5) (mC (.int 0))))
  (sExpr (mMt kAppend (mVar 2) (aCons (mTup (aCons (mVar 3) (aCons (mOp (dEq false) (mVar 5) (mC (.int 1))) aNil))) aNil)))
  sNil)))
  (sSeq (sFor (iVal (mLst false (aCons (mTup (aCons (mC (.str [111, 119, 110, 101, 100])) aNil)) (aCons (mTup (aCons (mC (.str [108, 101, 97, 115, 116])) (aCons (mC (.str [112, 111, 105, 110, 116, 115])) (aCons (mC (.int 20)) aNil)))) (aCons (mTup (aCons (mC (.str [115, 111, 109, 101])) (aCons (mC (.str [99, 104, 105, 108, 100])) (aCons (mTup (aCons (mC (.str [97, 108, 108])) aNil)) aNil)))) (aCons (mTup (aCons (mC (.str [105, 115])) (aCons (mC (.str [107, 105, 110, 100])) (aCons (mC (.str [107, 105, 110, 100])) aNil)))) aNil)))))) (.nm 3)
  (sIf (tAnd (tCmp (mOp (dIn true) (mVar 3) (mVar 0))) (tCmp (mOp (dEq false) (mCall 12 (aCons (mVar 1) (aCons (mC (.int 3)) aNil))) (mC (.int 0)))))
  (sExpr (mMt kAppend (mVar 2) (aCons (mTup (aCons (mVar 3) (aCons (mOp (dEq false) (mCall 12 (aCons (mVar 1) (aCons (mC (.int 2)) aNil))) (mC (.int 0))) aNil))) aNil)))
  sNil))
  (sSeq (sSet 4 (mCall 12 (aCons (mVar 1) (aCons (mOp (dAdd false) (mB gLen (aCons (mVar 2) aNil)) (mC (.int 1))) aNil))))
  (sRet (mOp (dAdd false) (mCut false (mVar 2) (pYes (mVar 4)) pNo) (mCut false (mVar 2) pNo (pYes (mVar 4)))))))))
noncomputable def b__law_is_value : MS :=
  (sSeq (sIf (tCmp (mUn (dIsN false) (mVar 1)))
  (sRet (mUn (dIsN false) (mVar 0)))
  sNil)
  (sRet (mAnd (mUn (dIs .bool) (mVar 0)) (mOp (dEq false) (mVar 0) (mVar 1)))))
noncomputable def b__law_on_card : MS :=
  (sSeq (sIf (tCmp (mOp (dEq false) (mOp dIx (mVar 0) (mC (.int 0))) (mC (.str [108, 101, 97, 115, 116]))))
  (sRet (mOp dGe (mOp dIx (mVar 1) (mOp (dAdd false) (mC (.int 4)) (mMt kIndex (mLst false (aCons (mC (.str [112, 114, 105, 111, 114, 105, 116, 121])) (aCons (mC (.str [112, 111, 105, 110, 116, 115])) aNil))) (aCons (mOp dIx (mVar 0) (mC (.int 1))) aNil)))) (mOp dIx (mVar 0) (mC (.int 2)))))
  sNil)
  (sRet (mCall 17 (aCons (mVar 0) (aCons (mVar 1) aNil)))))
noncomputable def b__law_card_side : MS :=
  (sSeq (sSet 3 (mCall 15 (aCons (mCut false (mVar 1) pNo (pYes (mOp (dAdd false) (mC (.int 1)) (mCall 12 (aCons (mVar 0) (aCons (mC (.int 8)) aNil)))))) (aCons (mVar 2) (aCons (mC (.int 0)) aNil)))))
  (sSeq (sSet 4 (mComp false (iVal (mVar 2)) (.nm 12) [12] (tCmp (mOp (dEq false) (mCall 12 (aCons (mVar 0) (aCons (mC (.int 2)) aNil))) (mC (.int 0)))) (mVar 12)))
  (sSeq (sSet 5 (mOp dIx (mOp (dAdd false) (mVar 2) (mLst false (aCons (mC (.str [])) (aCons (mC (.str [])) aNil)))) (mCall 12 (aCons (mVar 0) (aCons (mC (.int 8)) aNil)))))
  (sSeq (sSet 6 (mTup (aCons (mOp dIx (mVar 2) (mCall 12 (aCons (mVar 0) (aCons (mC (.int 6)) aNil)))) (aCons (mOp dIx (mVar 2) (mCall 12 (aCons (mVar 0) (aCons (mC (.int 6)) aNil)))) (aCons (mOp (dEq false) (mCall 12 (aCons (mVar 0) (aCons (mC (.int 2)) aNil))) (mC (.int 0))) (aCons (mVar 5) aNil))))))
  (sSeq (sSet 6 (mOp (dAdd false) (mVar 6) (mTup (aCons (mCall 12 (aCons (mVar 0) (aCons (mC (.int 5)) aNil))) (aCons (mCall 12 (aCons (mVar 0) (aCons (mC (.int 21)) aNil))) (aCons (mVar 4) aNil))))))
  (sSeq (sSet 7 (mCall 3 (aCons (mCall 16 (aCons (mVar 3) aNil)) aNil)))
  (sSeq (sSet 8 (mOp dIx (mCall 18 (aCons (mVar 3) (aCons (mLst false (aCons (mVar 6) aNil)) (aCons (mLst false (aCons (mLst false (aCons (mLst false aNil) (aCons (mLst false aNil) (aCons (mLst false aNil) aNil)))) aNil)) aNil)))) (mC (.int 0))))
  (sSeq (sSet 9 (mComp false (iVal (mCall 21 (aCons (mLst false (aCons (mCall 20 (aCons (mVar 3) aNil)) aNil)) aNil))) (.nm 13) [13] tYesM (mTup (aCons (mVar 13) (aCons (mCall 26 (aCons (mVar 13) (aCons (mVar 6) aNil))) aNil)))))
  (sSeq (sIf (tNot (tVal (mCall 25 (aCons (mCall 9 (aCons (mVar 7) (aCons (mB gTuple (aCons (mVar 9) aNil)) aNil))) (aCons (mVar 8) aNil)))))
  (sRet (mC (.bl false)))
  sNil)
  (sSeq (sSet 10 (mCall 12 (aCons (mVar 0) (aCons (mOp (dAdd false) (mB gLen (aCons (mVar 9) aNil)) (mC (.int 1))) aNil))))
  (sSeq (sSet 11 (mCall 9 (aCons (mVar 7) (aCons (mB gTuple (aCons (mOp (dAdd false) (mCut false (mVar 9) pNo (pYes (mVar 10))) (mCut false (mVar 9) (pYes (mOp (dAdd false) (mVar 10) (mC (.int 1)))) pNo)) aNil)) aNil))))
  (sRet (mOr (mUn (dIsN false) (mVar 11)) (mCall 25 (aCons (mVar 11) (aCons (mVar 8) aNil))))))))))))))))
noncomputable def b_law : MS :=
  (sSeq (sSet 1 (mCall 11 (aCons (mVar 0) aNil)))
  (sSeq (sSet 2 (mOp dIx (mVar 1) (mC (.int 0))))
  (sSeq (sSet 3 (mCall 13 (aCons (mCut false (mVar 1) (pYes (mC (.int 1))) (pYes (mC (.int 3)))) aNil)))
  (sSeq (sSet 4 (mCall 15 (aCons (mCut false (mVar 1) (pYes (mC (.int 3))) (pYes (mOp (dAdd false) (mC (.int 4)) (mCall 12 (aCons (mVar 2) (aCons (mC (.int 12)) aNil)))))) (aCons (mVar 3) (aCons (mC (.int 12)) aNil)))))
  (sSeq (sSet 5 (mOp (dMul false) (mLst false (aCons (mTup (aCons (mC (.str [110, 111, 116])) aNil)) aNil)) (mOp dIx (mLst false (aCons (mC (.int 0)) (aCons (mC (.int 0)) (aCons (mC (.int 0)) (aCons (mCall 12 (aCons (mVar 2) (aCons (mC (.int 170)) aNil))) aNil))))) (mCall 12 (aCons (mVar 2) (aCons (mC (.int 4)) aNil))))))
  (sSeq (sIf (tCmp (mOp (dEq false) (mCall 12 (aCons (mVar 2) (aCons (mC (.int 2)) aNil))) (mC (.int 0))))
  (sSet 4 (mOp (dAdd false) (mVar 4) (mVar 5)))
  (sSet 4 (mOp (dAdd false) (mOp (dAdd false) (mCut false (mVar 4) pNo (pYes (mC (.int 1)))) (mVar 5)) (mCut false (mVar 4) (pYes (mC (.int 1))) pNo))))
  (sSeq (sSet 6 (mCall 20 (aCons (mVar 4) aNil)))
  (sSeq (sSet 7 (mCall 3 (aCons (mCall 16 (aCons (mVar 4) aNil)) aNil)))
  (sSeq (sSet 8 (mCall 21 (aCons (mLst false (aCons (mVar 6) aNil)) aNil)))
  (sSeq (sIf (tOr (tNot (tVal (mCall 23 (aCons (mVar 7) (aCons (mVar 6) aNil))))) (tNot (tVal (mCall 23 (aCons (mCall 6 (aCons (mVar 7) aNil)) (aCons (mB gTuple (aCons (mVar 8) aNil)) aNil))))))
  (sRet (mC (.bl false)))
  sNil)
  (sSeq (sFor (iRng1 (mC (.int 4))) (.nm 9)
  (sSeq (sSet 10 (mCall 24 (aCons (mVar 8) (aCons (mOp dIx (mVar 1) (mOp (dAdd false) (mC (.int 16)) (mVar 9))) aNil))))
  (sIf (tNot (tVal (mCall 25 (aCons (mCall 9 (aCons (mVar 7) (aCons (mB gTuple (aCons (mVar 10) aNil)) aNil))) (aCons (mCall 22 (aCons (mVar 6) (aCons (mVar 10) aNil))) aNil)))))
  (sRet (mC (.bl false)))
  sNil)))
  (sRet (mCall 27 (aCons (mVar 2) (aCons (mCut false (mVar 1) (pYes (mC (.int 20))) pNo) (aCons (mVar 3) aNil))))))))))))))))
noncomputable def tab : Tab := [
  (("top_of" : Str), [("field" : Str)], ⟨1, 1, b_top_of⟩),
  (("at_least" : Str), [("field" : Str), ("bound" : Str)], ⟨2, 2, b_at_least⟩),
  (("core_number" : Str), [("query" : Str)], ⟨1, 6, b_core_number⟩),
  (("core_form" : Str), [("query" : Str)], ⟨1, 2, b_core_form⟩),
  (("test_list" : Str), [("core" : Str)], ⟨1, 4, b_test_list⟩),
  (("without_repeats" : Str), [("values" : Str)], ⟨1, 3, b_without_repeats⟩),
  (("tests_of" : Str), [("core" : Str)], ⟨1, 1, b_tests_of⟩),
  (("indexed" : Str), [("core" : Str), ("tests" : Str)], ⟨2, 3, b_indexed⟩),
  (("indexed_value" : Str), [("form" : Str), ("known" : Str)], ⟨2, 7, b_indexed_value⟩),
  (("value_under" : Str), [("core" : Str), ("known" : Str)], ⟨2, 6, b_value_under⟩),
  (("_law_deck" : Str), [("cell" : Str)], ⟨1, 1, b__law_deck⟩),
  (("_law_decks" : Str), [("script" : Str)], ⟨1, 6, b__law_decks⟩),
  (("_law_draw" : Str), [("deck" : Str), ("many" : Str)], ⟨2, 3, b__law_draw⟩),
  (("_law_names" : Str), [("decks" : Str)], ⟨1, 9, b__law_names⟩),
  (("_law_leaf" : Str), [("deck" : Str), ("names" : Str)], ⟨2, 6, b__law_leaf⟩),
  (("_law_code" : Str), [("decks" : Str), ("names" : Str), ("most" : Str)], ⟨3, 10, b__law_code⟩),
  (("_law_tree" : Str), [("code" : Str)], ⟨1, 6, b__law_tree⟩),
  (("_law_test" : Str), [("token" : Str), ("row" : Str)], ⟨2, 4, b__law_test⟩),
  (("_law_truths" : Str), [("code" : Str), ("rows" : Str), ("links" : Str)], ⟨3, 15, b__law_truths⟩),
  (("_law_least" : Str), [("field" : Str), ("bound" : Str)], ⟨2, 2, b__law_least⟩),
  (("_law_core" : Str), [("code" : Str)], ⟨1, 10, b__law_core⟩),
  (("_law_tests" : Str), [("demands" : Str)], ⟨1, 5, b__law_tests⟩),
  (("_law_value" : Str), [("core" : Str), ("known" : Str)], ⟨2, 11, b__law_value⟩),
  (("_law_is_same" : Str), [("told" : Str), ("due" : Str)], ⟨2, 6, b__law_is_same⟩),
  (("_law_known" : Str), [("tests" : Str), ("deck" : Str)], ⟨2, 6, b__law_known⟩),
  (("_law_is_value" : Str), [("told" : Str), ("due" : Str)], ⟨2, 2, b__law_is_value⟩),
  (("_law_on_card" : Str), [("test" : Str), ("row" : Str)], ⟨2, 2, b__law_on_card⟩),
  (("_law_card_side" : Str), [("deck" : Str), ("decks" : Str), ("names" : Str)], ⟨3, 14, b__law_card_side⟩),
  (("law" : Str), [("script" : Str)], ⟨1, 11, b_law⟩)]
structure Good (P : Program) (w : World) (K : Frag) (mg : Str → Option Value) (CL : List XC) where
  n_bool : mg "bool" = none
  n_int : mg "int" = none
  n_isinstance : mg "isinstance" = none
  n_len : mg "len" = none
  n_list : mg "list" = none
  n_range : mg "range" = none
  n_reversed : mg "reversed" = none
  n_sorted : mg "sorted" = none
  n_str : mg "str" = none
  n_tuple : mg "tuple" = none
  c_TOP_POINTS : GlobIs K mg "TOP_POINTS" k_TOP_POINTS
  c_TOP_PRIORITY : GlobIs K mg "TOP_PRIORITY" k_TOP_PRIORITY
section
variable {P : Program} {w : World} {K : Frag} {mg : Str → Option Value} {base : Heap} {CL : List XC} {c : Calls} {k : Nat}
theorem ok_top_of (ok : AllOk P w K mg base CL tab k c) : CalleeOk P w K mg base CL k (c 0) "top_of" [("field" : Str)] := ok 0 _ rfl
theorem ok_at_least (ok : AllOk P w K mg base CL tab k c) : CalleeOk P w K mg base CL k (c 1) "at_least" [("field" : Str), ("bound" : Str)] := ok 1 _ rfl
theorem ok_core_number (ok : AllOk P w K mg base CL tab k c) : CalleeOk P w K mg base CL k (c 2) "core_number" [("query" : Str)] := ok 2 _ rfl
theorem ok_core_form (ok : AllOk P w K mg base CL tab k c) : CalleeOk P w K mg base CL k (c 3) "core_form" [("query" : Str)] := ok 3 _ rfl
theorem ok_test_list (ok : AllOk P w K mg base CL tab k c) : CalleeOk P w K mg base CL k (c 4) "test_list" [("core" : Str)] := ok 4 _ rfl
theorem ok_without_repeats (ok : AllOk P w K mg base CL tab k c) : CalleeOk P w K mg base CL k (c 5) "without_repeats" [("values" : Str)] := ok 5 _ rfl
theorem ok_tests_of (ok : AllOk P w K mg base CL tab k c) : CalleeOk P w K mg base CL k (c 6) "tests_of" [("core" : Str)] := ok 6 _ rfl
theorem ok_indexed (ok : AllOk P w K mg base CL tab k c) : CalleeOk P w K mg base CL k (c 7) "indexed" [("core" : Str), ("tests" : Str)] := ok 7 _ rfl
theorem ok_indexed_value (ok : AllOk P w K mg base CL tab k c) : CalleeOk P w K mg base CL k (c 8) "indexed_value" [("form" : Str), ("known" : Str)] := ok 8 _ rfl
theorem ok_value_under (ok : AllOk P w K mg base CL tab k c) : CalleeOk P w K mg base CL k (c 9) "value_under" [("core" : Str), ("known" : Str)] := ok 9 _ rfl
theorem ok__law_deck (ok : AllOk P w K mg base CL tab k c) : CalleeOk P w K mg base CL k (c 10) "_law_deck" [("cell" : Str)] := ok 10 _ rfl
theorem ok__law_decks (ok : AllOk P w K mg base CL tab k c) : CalleeOk P w K mg base CL k (c 11) "_law_decks" [("script" : Str)] := ok 11 _ rfl
theorem ok__law_draw (ok : AllOk P w K mg base CL tab k c) : CalleeOk P w K mg base CL k (c 12) "_law_draw" [("deck" : Str), ("many" : Str)] := ok 12 _ rfl
theorem ok__law_names (ok : AllOk P w K mg base CL tab k c) : CalleeOk P w K mg base CL k (c 13) "_law_names" [("decks" : Str)] := ok 13 _ rfl
theorem ok__law_leaf (ok : AllOk P w K mg base CL tab k c) : CalleeOk P w K mg base CL k (c 14) "_law_leaf" [("deck" : Str), ("names" : Str)] := ok 14 _ rfl
theorem ok__law_code (ok : AllOk P w K mg base CL tab k c) : CalleeOk P w K mg base CL k (c 15) "_law_code" [("decks" : Str), ("names" : Str), ("most" : Str)] := ok 15 _ rfl
theorem ok__law_tree (ok : AllOk P w K mg base CL tab k c) : CalleeOk P w K mg base CL k (c 16) "_law_tree" [("code" : Str)] := ok 16 _ rfl
theorem ok__law_test (ok : AllOk P w K mg base CL tab k c) : CalleeOk P w K mg base CL k (c 17) "_law_test" [("token" : Str), ("row" : Str)] := ok 17 _ rfl
theorem ok__law_truths (ok : AllOk P w K mg base CL tab k c) : CalleeOk P w K mg base CL k (c 18) "_law_truths" [("code" : Str), ("rows" : Str), ("links" : Str)] := ok 18 _ rfl
theorem ok__law_least (ok : AllOk P w K mg base CL tab k c) : CalleeOk P w K mg base CL k (c 19) "_law_least" [("field" : Str), ("bound" : Str)] := ok 19 _ rfl
theorem ok__law_core (ok : AllOk P w K mg base CL tab k c) : CalleeOk P w K mg base CL k (c 20) "_law_core" [("code" : Str)] := ok 20 _ rfl
theorem ok__law_tests (ok : AllOk P w K mg base CL tab k c) : CalleeOk P w K mg base CL k (c 21) "_law_tests" [("demands" : Str)] := ok 21 _ rfl
theorem ok__law_value (ok : AllOk P w K mg base CL tab k c) : CalleeOk P w K mg base CL k (c 22) "_law_value" [("core" : Str), ("known" : Str)] := ok 22 _ rfl
theorem ok__law_is_same (ok : AllOk P w K mg base CL tab k c) : CalleeOk P w K mg base CL k (c 23) "_law_is_same" [("told" : Str), ("due" : Str)] := ok 23 _ rfl
theorem ok__law_known (ok : AllOk P w K mg base CL tab k c) : CalleeOk P w K mg base CL k (c 24) "_law_known" [("tests" : Str), ("deck" : Str)] := ok 24 _ rfl
theorem ok__law_is_value (ok : AllOk P w K mg base CL tab k c) : CalleeOk P w K mg base CL k (c 25) "_law_is_value" [("told" : Str), ("due" : Str)] := ok 25 _ rfl
theorem ok__law_on_card (ok : AllOk P w K mg base CL tab k c) : CalleeOk P w K mg base CL k (c 26) "_law_on_card" [("test" : Str), ("row" : Str)] := ok 26 _ rfl
theorem ok__law_card_side (ok : AllOk P w K mg base CL tab k c) : CalleeOk P w K mg base CL k (c 27) "_law_card_side" [("deck" : Str), ("decks" : Str), ("names" : Str)] := ok 27 _ rfl
theorem ok_law (ok : AllOk P w K mg base CL tab k c) : CalleeOk P w K mg base CL k (c 28) "law" [("script" : Str)] := ok 28 _ rfl
abbrev N_top_of : List Str := ["field"]
theorem d_top_of (G : Good P w K mg CL) (hk : 23 ≤ k) (ok : AllOk P w K mg base CL tab k c) {f : Addr} {cdv : Value} {A : Around} {outer : List Env} {s : Shared} {H : Hp} {E : XK} (hr : Room k (A.deeper (envOfC "top_of" (defScope (top 3)) s.heap.objs.size f cdv))) :
    DSs (cxOf (L2.CX P w) P w K mg base N_top_of "top_of" (defScope (top 3)) f cdv A outer s H E) CL (fun cls d _ H => E cls d H) c (defBody (top 3)) b_top_of := by
  have hu := hu_of23 hr hk
  have nd : (N_top_of).Nodup := by decide
  have tk : Takes (cxOf (L2.CX P w) P w K mg base N_top_of "top_of" (defScope (top 3)) f cdv A outer s H E) (fun cls d _ H => E cls d H) := takes_of rfl rfl rfl rfl
  have po : PassesOwn (model P w) (cxOf (L2.CX P w) P w K mg base N_top_of "top_of" (defScope (top 3)) f cdv A outer s H E).A (cxOf (L2.CX P w) P w K mg base N_top_of "top_of" (defScope (top 3)) f cdv A outer s H E).env (cxOf (L2.CX P w) P w K mg base N_top_of "top_of" (defScope (top 3)) f cdv A outer s H E).xe := passes_of rfl
  exact (ds_cons (ds_if (t_eq hu (g_var 0) g_str)
  (ds_one (ds_ret (g_glob G.c_TOP_PRIORITY)))
  ds_nil)
  (ds_one (ds_ret (g_glob G.c_TOP_POINTS))))
abbrev N_at_least : List Str := ["field", "bound"]
theorem d_at_least (G : Good P w K mg CL) (hk : 23 ≤ k) (ok : AllOk P w K mg base CL tab k c) {f : Addr} {cdv : Value} {A : Around} {outer : List Env} {s : Shared} {H : Hp} {E : XK} (hr : Room k (A.deeper (envOfC "at_least" (defScope (top 4)) s.heap.objs.size f cdv))) :
    DSs (cxOf (L2.CX P w) P w K mg base N_at_least "at_least" (defScope (top 4)) f cdv A outer s H E) CL (fun cls d _ H => E cls d H) c (defBody (top 4)) b_at_least := by
  have hu := hu_of23 hr hk
  have nd : (N_at_least).Nodup := by decide
  have tk : Takes (cxOf (L2.CX P w) P w K mg base N_at_least "at_least" (defScope (top 4)) f cdv A outer s H E) (fun cls d _ H => E cls d H) := takes_of rfl rfl rfl rfl
  have po : PassesOwn (model P w) (cxOf (L2.CX P w) P w K mg base N_at_least "at_least" (defScope (top 4)) f cdv A outer s H E).A (cxOf (L2.CX P w) P w K mg base N_at_least "at_least" (defScope (top 4)) f cdv A outer s H E).env (cxOf (L2.CX P w) P w K mg base N_at_least "at_least" (defScope (top 4)) f cdv A outer s H E).xe := passes_of rfl
  exact (ds_cons (ds_if (t_le (g_var 1) de_int)
  (ds_one (ds_ret (de_tup (g_cons g_str g_nil))))
  ds_nil)
  (ds_cons (ds_if (t_gt (g_var 1) (g_call (ok_top_of ok) hr tk (g_cons (g_var 0) g_nil)))
  (ds_one (ds_ret (de_tup (g_cons g_str g_nil))))
  ds_nil)
  (ds_one (ds_ret (de_tup (g_cons g_str (g_cons (g_var 0) (g_cons (g_var 1) g_nil))))))))
abbrev N_core_number : List Str := ["query", "_", "field", "sign", "bound", "above"]
theorem d_core_number (G : Good P w K mg CL) (hk : 23 ≤ k) (ok : AllOk P w K mg base CL tab k c) {f : Addr} {cdv : Value} {A : Around} {outer : List Env} {s : Shared} {H : Hp} {E : XK} (hr : Room k (A.deeper (envOfC "core_number" (defScope (top 5)) s.heap.objs.size f cdv))) :
    DSs (cxOf (L2.CX P w) P w K mg base N_core_number "core_number" (defScope (top 5)) f cdv A outer s H E) CL (fun cls d _ H => E cls d H) c (defBody (top 5)) b_core_number := by
  have hu := hu_of23 hr hk
  have nd : (N_core_number).Nodup := by decide
  have tk : Takes (cxOf (L2.CX P w) P w K mg base N_core_number "core_number" (defScope (top 5)) f cdv A outer s H E) (fun cls d _ H => E cls d H) := takes_of rfl rfl rfl rfl
  have po : PassesOwn (model P w) (cxOf (L2.CX P w) P w K mg base N_core_number "core_number" (defScope (top 5)) f cdv A outer s H E).A (cxOf (L2.CX P w) P w K mg base N_core_number "core_number" (defScope (top 5)) f cdv A outer s H E).env (cxOf (L2.CX P w) P w K mg base N_core_number "core_number" (defScope (top 5)) f cdv A outer s H E).xe := passes_of rfl
  exact (ds_cons (s_asg (g_var 0) (dg_tp rfl nd (g_nms 1 (g_nms 2 (g_nms 3 (g_nms 4 g_nms0))))))
  (ds_cons (ds_if (t_eq hu (g_var 3) g_str)
  (ds_one (ds_ret (g_call (ok_at_least ok) hr tk (g_cons (g_var 2) (g_cons (g_var 4) g_nil)))))
  ds_nil)
  (ds_cons (ds_if (t_eq hu (g_var 3) g_str)
  (ds_one (ds_ret (g_call (ok_at_least ok) hr tk (g_cons (g_var 2) (g_cons (g_add (g_var 4) de_int) g_nil)))))
  ds_nil)
  (ds_cons (ds_if (t_eq hu (g_var 3) g_str)
  (ds_one (ds_ret (de_tup (g_cons g_str (g_cons (g_call (ok_at_least ok) hr tk (g_cons (g_var 2) (g_cons (g_var 4) g_nil))) g_nil)))))
  ds_nil)
  (ds_cons (s_set 5 nd (de_tup (g_cons g_str (g_cons (g_call (ok_at_least ok) hr tk (g_cons (g_var 2) (g_cons (g_add (g_var 4) de_int) g_nil))) g_nil))))
  (ds_cons (ds_if (t_eq hu (g_var 3) g_str)
  (ds_one (ds_ret (g_var 5)))
  ds_nil)
  (ds_one (ds_ret (de_tup (g_cons g_str (g_cons (g_call (ok_at_least ok) hr tk (g_cons (g_var 2) (g_cons (g_var 4) g_nil))) (g_cons (g_var 5) g_nil))))))))))))
abbrev N_core_form : List Str := ["query", "word"]
theorem d_core_form (G : Good P w K mg CL) (hk : 23 ≤ k) (ok : AllOk P w K mg base CL tab k c) {f : Addr} {cdv : Value} {A : Around} {outer : List Env} {s : Shared} {H : Hp} {E : XK} (hr : Room k (A.deeper (envOfC "core_form" (defScope (top 6)) s.heap.objs.size f cdv))) :
    DSs (cxOf (L2.CX P w) P w K mg base N_core_form "core_form" (defScope (top 6)) f cdv A outer s H E) CL (fun cls d _ H => E cls d H) c (defBody (top 6)) b_core_form := by
  have hu := hu_of23 hr hk
  have nd : (N_core_form).Nodup := by decide
  have tk : Takes (cxOf (L2.CX P w) P w K mg base N_core_form "core_form" (defScope (top 6)) f cdv A outer s H E) (fun cls d _ H => E cls d H) := takes_of rfl rfl rfl rfl
  have po : PassesOwn (model P w) (cxOf (L2.CX P w) P w K mg base N_core_form "core_form" (defScope (top 6)) f cdv A outer s H E).A (cxOf (L2.CX P w) P w K mg base N_core_form "core_form" (defScope (top 6)) f cdv A outer s H E).env (cxOf (L2.CX P w) P w K mg base N_core_form "core_form" (defScope (top 6)) f cdv A outer s H E).xe := passes_of rfl
  exact (ds_cons (s_set 1 nd (g_ix hu (g_var 0) de_int))
  (ds_cons (ds_if (t_eq hu (g_var 1) g_str)
  (ds_one (ds_ret (g_call (ok_core_number ok) hr tk (g_cons (g_var 0) g_nil))))
  ds_nil)
  (ds_cons (ds_if (t_eq hu (g_var 1) g_str)
  (ds_one (ds_ret (de_tup (g_cons g_str (g_cons (g_call (ok_core_form ok) hr tk (g_cons (g_ix hu (g_var 0) de_int) g_nil)) g_nil)))))
  ds_nil)
  (ds_cons (ds_if (t_in hu (g_var 1) (de_tup (g_cons g_str (g_cons g_str g_nil))))
  (ds_one (ds_ret (de_tup (g_cons (g_var 1) (g_cons (g_call (ok_core_form ok) hr tk (g_cons (g_ix hu (g_var 0) de_int) g_nil)) (g_cons (g_call (ok_core_form ok) hr tk (g_cons (g_ix hu (g_var 0) de_int) g_nil)) g_nil))))))
  ds_nil)
  (ds_cons (ds_if (t_eq hu (g_var 1) g_str)
  (ds_one (ds_ret (de_tup (g_cons g_str (g_cons (g_ix hu (g_var 0) de_int) (g_cons (g_call (ok_core_form ok) hr tk (g_cons (g_ix hu (g_var 0) de_int) g_nil)) g_nil))))))
  ds_nil)
  (ds_cons (ds_if (t_eq hu (g_var 1) g_str)
  (ds_one (ds_ret (de_tup (g_cons g_str (g_cons (de_tup (g_cons g_str (g_cons (g_ix hu (g_var 0) de_int) (g_cons (de_tup (g_cons g_str (g_cons (g_call (ok_core_form ok) hr tk (g_cons (g_ix hu (g_var 0) de_int) g_nil)) g_nil))) g_nil)))) g_nil)))))
  ds_nil)
  (ds_one (ds_ret (g_var 0)))))))))
abbrev N_test_list : List Str := ["core", "tests", "waiting", "node"]
theorem d_test_list (G : Good P w K mg CL) (hk : 23 ≤ k) (ok : AllOk P w K mg base CL tab k c) {f : Addr} {cdv : Value} {A : Around} {outer : List Env} {s : Shared} {H : Hp} {E : XK} (hr : Room k (A.deeper (envOfC "test_list" (defScope (top 7)) s.heap.objs.size f cdv))) :
    DSs (cxOf (L2.CX P w) P w K mg base N_test_list "test_list" (defScope (top 7)) f cdv A outer s H E) CL (fun cls d _ H => E cls d H) c (defBody (top 7)) b_test_list := by
  have hu := hu_of23 hr hk
  have nd : (N_test_list).Nodup := by decide
  have tk : Takes (cxOf (L2.CX P w) P w K mg base N_test_list "test_list" (defScope (top 7)) f cdv A outer s H E) (fun cls d _ H => E cls d H) := takes_of rfl rfl rfl rfl
  have po : PassesOwn (model P w) (cxOf (L2.CX P w) P w K mg base N_test_list "test_list" (defScope (top 7)) f cdv A outer s H E).A (cxOf (L2.CX P w) P w K mg base N_test_list "test_list" (defScope (top 7)) f cdv A outer s H E).env (cxOf (L2.CX P w) P w K mg base N_test_list "test_list" (defScope (top 7)) f cdv A outer s H E).xe := passes_of rfl
  exact (ds_cons (s_set 1 nd (de_lst g_nil))
  (ds_cons (s_set 2 nd (de_lst (g_cons (g_var 0) g_nil)))
  (ds_cons (ds_while po (t_val (g_var 2))
  (ds_cons (s_set 3 nd (g_meth0 (mth_pop) (g_var 2)))
  (ds_one (ds_if (t_in hu (g_ix hu (g_var 3) de_int) (de_tup (g_cons g_str (g_cons g_str (g_cons g_str g_nil)))))
  (ds_one (s_expr (g_meth (mth_extend) (g_var 2) (g_cons (g_list G.n_list (g_cons (de_cut (g_var 3) (dp_yes de_int) dp_no) g_nil)) g_nil))))
  (ds_one (ds_if (t_nin hu (g_ix hu (g_var 3) de_int) (de_tup (g_cons g_str (g_cons g_str g_nil))))
  (ds_one (s_expr (g_meth (mth_append) (g_var 1) (g_cons (g_var 3) g_nil))))
  ds_nil))))))
  (ds_one (ds_ret (g_var 1))))))
abbrev N_without_repeats : List Str := ["values", "kept", "value"]
theorem d_without_repeats (G : Good P w K mg CL) (hk : 23 ≤ k) (ok : AllOk P w K mg base CL tab k c) {f : Addr} {cdv : Value} {A : Around} {outer : List Env} {s : Shared} {H : Hp} {E : XK} (hr : Room k (A.deeper (envOfC "without_repeats" (defScope (top 8)) s.heap.objs.size f cdv))) :
    DSs (cxOf (L2.CX P w) P w K mg base N_without_repeats "without_repeats" (defScope (top 8)) f cdv A outer s H E) CL (fun cls d _ H => E cls d H) c (defBody (top 8)) b_without_repeats := by
  have hu := hu_of23 hr hk
  have nd : (N_without_repeats).Nodup := by decide
  have tk : Takes (cxOf (L2.CX P w) P w K mg base N_without_repeats "without_repeats" (defScope (top 8)) f cdv A outer s H E) (fun cls d _ H => E cls d H) := takes_of rfl rfl rfl rfl
  have po : PassesOwn (model P w) (cxOf (L2.CX P w) P w K mg base N_without_repeats "without_repeats" (defScope (top 8)) f cdv A outer s H E).A (cxOf (L2.CX P w) P w K mg base N_without_repeats "without_repeats" (defScope (top 8)) f cdv A outer s H E).env (cxOf (L2.CX P w) P w K mg base N_without_repeats "without_repeats" (defScope (top 8)) f cdv A outer s H E).xe := passes_of rfl
  exact (ds_cons (s_set 1 nd (de_lst g_nil))
  (ds_cons (ds_for po rfl (di_val (g_sorted G.n_sorted hu (g_cons (g_var 0) g_nil))) (g_nm 2 nd)
  (ds_one (ds_if (t_w (dw_or (dt_not (t_val (g_var 1))) (dw_one' (t_ne hu (g_ix hu (g_var 1) (de_neg de_int)) (g_var 2)))))
  (ds_one (s_expr (g_meth (mth_append) (g_var 1) (g_cons (g_var 2) g_nil))))
  ds_nil)) (by intro _; rfl))
  (ds_one (ds_ret (g_tuple G.n_tuple (g_cons (g_var 1) g_nil))))))
abbrev N_tests_of : List Str := ["core"]
theorem d_tests_of (G : Good P w K mg CL) (hk : 23 ≤ k) (ok : AllOk P w K mg base CL tab k c) {f : Addr} {cdv : Value} {A : Around} {outer : List Env} {s : Shared} {H : Hp} {E : XK} (hr : Room k (A.deeper (envOfC "tests_of" (defScope (top 9)) s.heap.objs.size f cdv))) :
    DSs (cxOf (L2.CX P w) P w K mg base N_tests_of "tests_of" (defScope (top 9)) f cdv A outer s H E) CL (fun cls d _ H => E cls d H) c (defBody (top 9)) b_tests_of := by
  have hu := hu_of23 hr hk
  have nd : (N_tests_of).Nodup := by decide
  have tk : Takes (cxOf (L2.CX P w) P w K mg base N_tests_of "tests_of" (defScope (top 9)) f cdv A outer s H E) (fun cls d _ H => E cls d H) := takes_of rfl rfl rfl rfl
  have po : PassesOwn (model P w) (cxOf (L2.CX P w) P w K mg base N_tests_of "tests_of" (defScope (top 9)) f cdv A outer s H E).A (cxOf (L2.CX P w) P w K mg base N_tests_of "tests_of" (defScope (top 9)) f cdv A outer s H E).env (cxOf (L2.CX P w) P w K mg base N_tests_of "tests_of" (defScope (top 9)) f cdv A outer s H E).xe := passes_of rfl
  exact (ds_one (ds_ret (g_call (ok_without_repeats ok) hr tk (g_cons (g_call (ok_test_list ok) hr tk (g_cons (g_var 0) g_nil)) g_nil))))
abbrev N_indexed : List Str := ["core", "tests", "word"]
theorem d_indexed (G : Good P w K mg CL) (hk : 23 ≤ k) (ok : AllOk P w K mg base CL tab k c) {f : Addr} {cdv : Value} {A : Around} {outer : List Env} {s : Shared} {H : Hp} {E : XK} (hr : Room k (A.deeper (envOfC "indexed" (defScope (top 10)) s.heap.objs.size f cdv))) :
    DSs (cxOf (L2.CX P w) P w K mg base N_indexed "indexed" (defScope (top 10)) f cdv A outer s H E) CL (fun cls d _ H => E cls d H) c (defBody (top 10)) b_indexed := by
  have hu := hu_of23 hr hk
  have nd : (N_indexed).Nodup := by decide
  have tk : Takes (cxOf (L2.CX P w) P w K mg base N_indexed "indexed" (defScope (top 10)) f cdv A outer s H E) (fun cls d _ H => E cls d H) := takes_of rfl rfl rfl rfl
  have po : PassesOwn (model P w) (cxOf (L2.CX P w) P w K mg base N_indexed "indexed" (defScope (top 10)) f cdv A outer s H E).A (cxOf (L2.CX P w) P w K mg base N_indexed "indexed" (defScope (top 10)) f cdv A outer s H E).env (cxOf (L2.CX P w) P w K mg base N_indexed "indexed" (defScope (top 10)) f cdv A outer s H E).xe := passes_of rfl
  exact (ds_cons (s_set 2 nd (g_ix hu (g_var 0) de_int))
  (ds_cons (ds_if (t_in hu (g_var 2) (de_tup (g_cons g_str (g_cons g_str g_nil))))
  (ds_one (ds_ret (g_var 0)))
  ds_nil)
  (ds_cons (ds_if (t_eq hu (g_var 2) g_str)
  (ds_one (ds_ret (de_tup (g_cons g_str (g_cons (g_call (ok_indexed ok) hr tk (g_cons (g_ix hu (g_var 0) de_int) (g_cons (g_var 1) g_nil))) g_nil)))))
  ds_nil)
  (ds_cons (ds_if (t_in hu (g_var 2) (de_tup (g_cons g_str (g_cons g_str g_nil))))
  (ds_one (ds_ret (de_tup (g_cons (g_var 2) (g_cons (g_call (ok_indexed ok) hr tk (g_cons (g_ix hu (g_var 0) de_int) (g_cons (g_var 1) g_nil))) (g_cons (g_call (ok_indexed ok) hr tk (g_cons (g_ix hu (g_var 0) de_int) (g_cons (g_var 1) g_nil))) g_nil))))))
  ds_nil)
  (ds_one (ds_ret (de_tup (g_cons g_str (g_cons (g_meth (mth_index hu) (g_var 1) (g_cons (g_var 0) g_nil)) g_nil)))))))))
abbrev N_indexed_value : List Str := ["form", "known", "word", "left", "right", "decisive", "inner"]
theorem d_indexed_value (G : Good P w K mg CL) (hk : 23 ≤ k) (ok : AllOk P w K mg base CL tab k c) {f : Addr} {cdv : Value} {A : Around} {outer : List Env} {s : Shared} {H : Hp} {E : XK} (hr : Room k (A.deeper (envOfC "indexed_value" (defScope (top 11)) s.heap.objs.size f cdv))) :
    DSs (cxOf (L2.CX P w) P w K mg base N_indexed_value "indexed_value" (defScope (top 11)) f cdv A outer s H E) CL (fun cls d _ H => E cls d H) c (defBody (top 11)) b_indexed_value := by
  have hu := hu_of23 hr hk
  have nd : (N_indexed_value).Nodup := by decide
  have tk : Takes (cxOf (L2.CX P w) P w K mg base N_indexed_value "indexed_value" (defScope (top 11)) f cdv A outer s H E) (fun cls d _ H => E cls d H) := takes_of rfl rfl rfl rfl
  have po : PassesOwn (model P w) (cxOf (L2.CX P w) P w K mg base N_indexed_value "indexed_value" (defScope (top 11)) f cdv A outer s H E).A (cxOf (L2.CX P w) P w K mg base N_indexed_value "indexed_value" (defScope (top 11)) f cdv A outer s H E).env (cxOf (L2.CX P w) P w K mg base N_indexed_value "indexed_value" (defScope (top 11)) f cdv A outer s H E).xe := passes_of rfl
  exact (ds_cons (s_set 2 nd (g_ix hu (g_var 0) de_int))
  (ds_cons (ds_if (t_eq hu (g_var 2) g_str)
  (ds_one (ds_ret (g_meth (mth_get hu) (g_var 1) (g_cons (g_ix hu (g_var 0) de_int) g_nil))))
  ds_nil)
  (ds_cons (ds_if (t_eq hu (g_var 2) g_str)
  (ds_cons (s_set 6 nd (g_call (ok_indexed_value ok) hr tk (g_cons (g_ix hu (g_var 0) de_int) (g_cons (g_var 1) g_nil))))
  (ds_one (ds_ret (de_if (dt_isN (g_var 6)) de_non (de_not (g_var 6))))))
  ds_nil)
  (ds_cons (ds_if (t_in hu (g_var 2) (de_tup (g_cons g_str (g_cons g_str g_nil))))
  (ds_one (ds_ret (g_eq hu (g_var 2) g_str)))
  ds_nil)
  (ds_cons (s_set 3 nd (g_call (ok_indexed_value ok) hr tk (g_cons (g_ix hu (g_var 0) de_int) (g_cons (g_var 1) g_nil))))
  (ds_cons (s_set 4 nd (g_call (ok_indexed_value ok) hr tk (g_cons (g_ix hu (g_var 0) de_int) (g_cons (g_var 1) g_nil))))
  (ds_cons (s_set 5 nd (g_eq hu (g_var 2) g_str))
  (ds_cons (ds_if (t_w (dw_or (t_eq hu (g_var 3) (g_var 5)) (dw_one' (t_eq hu (g_var 4) (g_var 5)))))
  (ds_one (ds_ret (g_var 5)))
  ds_nil)
  (ds_cons (ds_if (t_w (dw_or (dt_isN (g_var 3)) (dw_one' (dt_isN (g_var 4)))))
  (ds_one (ds_ret de_non))
  ds_nil)
  (ds_one (ds_ret (de_not (g_var 5)))))))))))))
abbrev N_value_under : List Str := ["core", "known", "tests", "values", "test", "value"]
theorem d_value_under (G : Good P w K mg CL) (hk : 23 ≤ k) (ok : AllOk P w K mg base CL tab k c) {f : Addr} {cdv : Value} {A : Around} {outer : List Env} {s : Shared} {H : Hp} {E : XK} (hr : Room k (A.deeper (envOfC "value_under" (defScope (top 12)) s.heap.objs.size f cdv))) :
    DSs (cxOf (L2.CX P w) P w K mg base N_value_under "value_under" (defScope (top 12)) f cdv A outer s H E) CL (fun cls d _ H => E cls d H) c (defBody (top 12)) b_value_under := by
  have hu := hu_of23 hr hk
  have nd : (N_value_under).Nodup := by decide
  have tk : Takes (cxOf (L2.CX P w) P w K mg base N_value_under "value_under" (defScope (top 12)) f cdv A outer s H E) (fun cls d _ H => E cls d H) := takes_of rfl rfl rfl rfl
  have po : PassesOwn (model P w) (cxOf (L2.CX P w) P w K mg base N_value_under "value_under" (defScope (top 12)) f cdv A outer s H E).A (cxOf (L2.CX P w) P w K mg base N_value_under "value_under" (defScope (top 12)) f cdv A outer s H E).env (cxOf (L2.CX P w) P w K mg base N_value_under "value_under" (defScope (top 12)) f cdv A outer s H E).xe := passes_of rfl
  exact (ds_cons (s_set 2 nd (g_call (ok_tests_of ok) hr tk (g_cons (g_var 0) g_nil)))
  (ds_cons (s_set 3 nd g_dict0)
  (ds_cons (ds_for po rfl (di_val (g_var 1)) (dg_tp rfl nd (g_nms 4 (g_nms 5 g_nms0)))
  (ds_one (ds_if (t_in hu (g_var 4) (g_var 2))
  (ds_one (s_put hu (g_var 3) (g_meth (mth_index hu) (g_var 2) (g_cons (g_var 4) g_nil)) (g_var 5)))
  ds_nil)) (by intro _; rfl))
  (ds_one (ds_ret (g_call (ok_indexed_value ok) hr tk (g_cons (g_call (ok_indexed ok) hr tk (g_cons (g_var 0) (g_cons (g_var 2) g_nil))) (g_cons (g_var 3) g_nil))))))))
abbrev N__law_deck : List Str := ["cell"]
theorem d__law_deck (G : Good P w K mg CL) (hk : 23 ≤ k) (ok : AllOk P w K mg base CL tab k c) {f : Addr} {cdv : Value} {A : Around} {outer : List Env} {s : Shared} {H : Hp} {E : XK} (hr : Room k (A.deeper (envOfC "_law_deck" (defScope (top 14)) s.heap.objs.size f cdv))) :
    DSs (cxOf (L2.CX P w) P w K mg base N__law_deck "_law_deck" (defScope (top 14)) f cdv A outer s H E) CL (fun cls d _ H => E cls d H) c (defBody (top 14)) b__law_deck := by
  have hu := hu_of23 hr hk
  have nd : (N__law_deck).Nodup := by decide
  have tk : Takes (cxOf (L2.CX P w) P w K mg base N__law_deck "_law_deck" (defScope (top 14)) f cdv A outer s H E) (fun cls d _ H => E cls d H) := takes_of rfl rfl rfl rfl
  have po : PassesOwn (model P w) (cxOf (L2.CX P w) P w K mg base N__law_deck "_law_deck" (defScope (top 14)) f cdv A outer s H E).A (cxOf (L2.CX P w) P w K mg base N__law_deck "_law_deck" (defScope (top 14)) f cdv A outer s H E).env (cxOf (L2.CX P w) P w K mg base N__law_deck "_law_deck" (defScope (top 14)) f cdv A outer s H E).xe := passes_of rfl
  exact (ds_cons (ds_if (t_ge (g_var 0) (g_pow de_int de_int))
  (ds_one (ds_ret (de_lst (g_cons (g_sub (g_var 0) (g_pow de_int de_int)) (g_cons (de_neg de_int) g_nil)))))
  ds_nil)
  (ds_one (ds_ret (de_lst (g_cons (g_mod (g_int G.n_int (g_cons (g_add (g_mul (g_mod (g_int G.n_int (g_cons (g_var 0) g_nil)) de_int) de_int) de_int) g_nil)) de_int) (g_cons de_int g_nil))))))
abbrev N__law_decks : List Str := ["script", "cells", "seed", "cell", "missing", "k"]
theorem d__law_decks (G : Good P w K mg CL) (hk : 23 ≤ k) (ok : AllOk P w K mg base CL tab k c) {f : Addr} {cdv : Value} {A : Around} {outer : List Env} {s : Shared} {H : Hp} {E : XK} (hr : Room k (A.deeper (envOfC "_law_decks" (defScope (top 15)) s.heap.objs.size f cdv))) :
    DSs (cxOf (L2.CX P w) P w K mg base N__law_decks "_law_decks" (defScope (top 15)) f cdv A outer s H E) CL (fun cls d _ H => E cls d H) c (defBody (top 15)) b__law_decks := by
  have hu := hu_of23 hr hk
  have nd : (N__law_decks).Nodup := by decide
  have tk : Takes (cxOf (L2.CX P w) P w K mg base N__law_decks "_law_decks" (defScope (top 15)) f cdv A outer s H E) (fun cls d _ H => E cls d H) := takes_of rfl rfl rfl rfl
  have po : PassesOwn (model P w) (cxOf (L2.CX P w) P w K mg base N__law_decks "_law_decks" (defScope (top 15)) f cdv A outer s H E).A (cxOf (L2.CX P w) P w K mg base N__law_decks "_law_decks" (defScope (top 15)) f cdv A outer s H E).env (cxOf (L2.CX P w) P w K mg base N__law_decks "_law_decks" (defScope (top 15)) f cdv A outer s H E).xe := passes_of rfl
  exact (ds_cons (s_setc 1 [(("cell" : Str), 3)] rfl nd (di_val (de_cut (g_var 0) dp_no (dp_yes de_int))) (fun s H C cl fp => (g_nm 3 nd)) (fun s H C cl fp => pts_none) (fun s H C cl fp => (g_int G.n_int (g_cons (g_var 3) g_nil))))
  (ds_cons (s_set 2 nd de_int)
  (ds_cons (ds_for po rfl (di_val (g_var 1)) (g_nm 3 nd)
  (ds_one (s_set 2 nd (g_mod (g_int G.n_int (g_cons (g_add (g_add (g_mul (g_var 2) de_int) (g_mod (g_int G.n_int (g_cons (g_var 3) g_nil)) de_int)) de_int) g_nil)) de_int))) (by intro _; rfl))
  (ds_cons (s_set 4 nd (g_sub de_int (g_len G.n_len (g_cons (g_var 1) g_nil))))
  (ds_cons (ds_for po rfl (g_rng1 G.n_range (g_var 4)) (g_nm 5 nd)
  (ds_cons (s_set 2 nd (g_mod (g_int G.n_int (g_cons (g_add (g_add (g_mul (g_var 2) de_int) (g_mul (g_var 5) de_int)) de_int) g_nil)) de_int))
  (ds_one (s_expr (g_meth (mth_append) (g_var 1) (g_cons (g_var 2) g_nil))))) (by intro _; rfl))
  (ds_one (ds_ret (g_comp [(("cell" : Str), 3)] rfl nd (di_val (g_var 1)) (fun s H C cl fp => (g_nm 3 nd)) (fun s H C cl fp => pts_none) (fun s H C cl fp => (g_call (ok__law_deck ok) hr takes00 (g_cons (g_var 3) g_nil)))))))))))
abbrev N__law_draw : List Str := ["deck", "many", "worth"]
theorem d__law_draw (G : Good P w K mg CL) (hk : 23 ≤ k) (ok : AllOk P w K mg base CL tab k c) {f : Addr} {cdv : Value} {A : Around} {outer : List Env} {s : Shared} {H : Hp} {E : XK} (hr : Room k (A.deeper (envOfC "_law_draw" (defScope (top 16)) s.heap.objs.size f cdv))) :
    DSs (cxOf (L2.CX P w) P w K mg base N__law_draw "_law_draw" (defScope (top 16)) f cdv A outer s H E) CL (fun cls d _ H => E cls d H) c (defBody (top 16)) b__law_draw := by
  have hu := hu_of23 hr hk
  have nd : (N__law_draw).Nodup := by decide
  have tk : Takes (cxOf (L2.CX P w) P w K mg base N__law_draw "_law_draw" (defScope (top 16)) f cdv A outer s H E) (fun cls d _ H => E cls d H) := takes_of rfl rfl rfl rfl
  have po : PassesOwn (model P w) (cxOf (L2.CX P w) P w K mg base N__law_draw "_law_draw" (defScope (top 16)) f cdv A outer s H E).A (cxOf (L2.CX P w) P w K mg base N__law_draw "_law_draw" (defScope (top 16)) f cdv A outer s H E).env (cxOf (L2.CX P w) P w K mg base N__law_draw "_law_draw" (defScope (top 16)) f cdv A outer s H E).xe := passes_of rfl
  exact (ds_cons (ds_if (t_lt (g_ix hu (g_var 0) de_int) de_int)
  (ds_cons (s_set 2 nd (g_mod (g_int G.n_int (g_cons (g_ix hu (g_var 0) de_int) g_nil)) (g_var 1)))
  (ds_cons (s_sub (g_var 0) de_int (g_div (g_ix hu (g_var 0) de_int) (g_var 1)))
  (ds_one (ds_ret (g_var 2)))))
  ds_nil)
  (ds_cons (s_sub (g_var 0) de_int (g_add (g_ix hu (g_var 0) de_int) de_int))
  (ds_cons (s_sub (g_var 0) de_int (g_mod (g_int G.n_int (g_cons (g_add (g_add (g_mul (g_ix hu (g_var 0) de_int) de_int) (g_mul (g_ix hu (g_var 0) de_int) de_int)) de_int) g_nil)) de_int))
  (ds_one (ds_ret (g_mod (g_int G.n_int (g_cons (g_div (g_ix hu (g_var 0) de_int) de_int) g_nil)) (g_var 1)))))))
abbrev N__law_names : List Str := ["decks", "letters", "names", "deck", "k", "size", "name", "place", "letter"]
theorem d__law_names (G : Good P w K mg CL) (hk : 23 ≤ k) (ok : AllOk P w K mg base CL tab k c) {f : Addr} {cdv : Value} {A : Around} {outer : List Env} {s : Shared} {H : Hp} {E : XK} (hr : Room k (A.deeper (envOfC "_law_names" (defScope (top 17)) s.heap.objs.size f cdv))) :
    DSs (cxOf (L2.CX P w) P w K mg base N__law_names "_law_names" (defScope (top 17)) f cdv A outer s H E) CL (fun cls d _ H => E cls d H) c (defBody (top 17)) b__law_names := by
  have hu := hu_of23 hr hk
  have nd : (N__law_names).Nodup := by decide
  have tk : Takes (cxOf (L2.CX P w) P w K mg base N__law_names "_law_names" (defScope (top 17)) f cdv A outer s H E) (fun cls d _ H => E cls d H) := takes_of rfl rfl rfl rfl
  have po : PassesOwn (model P w) (cxOf (L2.CX P w) P w K mg base N__law_names "_law_names" (defScope (top 17)) f cdv A outer s H E).A (cxOf (L2.CX P w) P w K mg base N__law_names "_law_names" (defScope (top 17)) f cdv A outer s H E).env (cxOf (L2.CX P w) P w K mg base N__law_names "_law_names" (defScope (top 17)) f cdv A outer s H E).xe := passes_of rfl
  exact (ds_cons (s_set 1 nd g_str)
  (ds_cons (s_set 2 nd (de_lst g_nil))
  (ds_cons (ds_for po rfl (di_val (g_var 0)) (g_nm 3 nd)
  (ds_one (ds_for po rfl (g_rng1 G.n_range de_int) (g_nm 4 nd)
  (ds_cons (s_set 5 nd (g_add de_int (g_call (ok__law_draw ok) hr tk (g_cons (g_var 3) (g_cons de_int g_nil)))))
  (ds_cons (ds_if (t_eq hu (g_call (ok__law_draw ok) hr tk (g_cons (g_var 3) (g_cons de_int g_nil))) de_int)
  (ds_one (s_set 5 nd (g_add de_int (g_div (g_var 5) de_int))))
  ds_nil)
  (ds_cons (s_set 6 nd (g_meth (mth_join) g_str (g_cons (g_comp [(("place" : Str), 7)] rfl nd (g_rng1 G.n_range (g_var 5)) (fun s H C cl fp => (g_nm 7 nd)) (fun s H C cl fp => pts_none) (fun s H C cl fp => (g_ix hu (g_var 1) (g_call (ok__law_draw ok) hr takes00 (g_cons (g_var 3) (g_cons de_int g_nil)))))) g_nil)))
  (ds_cons (ds_if (t_in hu (g_var 6) (g_var 2))
  (ds_one (s_set 6 nd (g_ix hu (g_comp [(("letter" : Str), 8)] rfl nd (di_val (g_var 1)) (fun s H C cl fp => (g_nm 8 nd)) (fun s H C cl fp => (pts_one (t_nin hu (g_var 8) (g_var 2)))) (fun s H C cl fp => (g_var 8))) de_int)))
  ds_nil)
  (ds_one (s_expr (g_meth (mth_append) (g_var 2) (g_cons (g_var 6) g_nil)))))))) (by intro _; rfl))) (by intro _; rfl))
  (ds_one (ds_ret (g_var 2))))))
abbrev N__law_leaf : List Str := ["deck", "names", "pick", "field", "sign", "bounds"]
theorem d__law_leaf (G : Good P w K mg CL) (hk : 23 ≤ k) (ok : AllOk P w K mg base CL tab k c) {f : Addr} {cdv : Value} {A : Around} {outer : List Env} {s : Shared} {H : Hp} {E : XK} (hr : Room k (A.deeper (envOfC "_law_leaf" (defScope (top 18)) s.heap.objs.size f cdv))) :
    DSs (cxOf (L2.CX P w) P w K mg base N__law_leaf "_law_leaf" (defScope (top 18)) f cdv A outer s H E) CL (fun cls d _ H => E cls d H) c (defBody (top 18)) b__law_leaf := by
  have hu := hu_of23 hr hk
  have nd : (N__law_leaf).Nodup := by decide
  have tk : Takes (cxOf (L2.CX P w) P w K mg base N__law_leaf "_law_leaf" (defScope (top 18)) f cdv A outer s H E) (fun cls d _ H => E cls d H) := takes_of rfl rfl rfl rfl
  have po : PassesOwn (model P w) (cxOf (L2.CX P w) P w K mg base N__law_leaf "_law_leaf" (defScope (top 18)) f cdv A outer s H E).A (cxOf (L2.CX P w) P w K mg base N__law_leaf "_law_leaf" (defScope (top 18)) f cdv A outer s H E).env (cxOf (L2.CX P w) P w K mg base N__law_leaf "_law_leaf" (defScope (top 18)) f cdv A outer s H E).xe := passes_of rfl
  exact (ds_cons (s_set 2 nd (g_call (ok__law_draw ok) hr tk (g_cons (g_var 0) (g_cons de_int g_nil))))
  (ds_cons (ds_if (t_lt (g_var 2) de_int)
  (ds_one (ds_ret (de_tup (g_cons (g_ix hu (de_lst (g_cons g_str (g_cons g_str (g_cons g_str (g_cons g_str (g_cons g_str (g_cons g_str g_nil))))))) (g_call (ok__law_draw ok) hr tk (g_cons (g_var 0) (g_cons de_int g_nil)))) g_nil))))
  ds_nil)
  (ds_cons (ds_if (t_lt (g_var 2) de_int)
  (ds_cons (s_set 3 nd (g_ix hu (de_lst (g_cons g_str (g_cons g_str (g_cons g_str (g_cons g_str (g_cons g_str (g_cons g_str g_nil))))))) (g_call (ok__law_draw ok) hr tk (g_cons (g_var 0) (g_cons de_int g_nil)))))
  (ds_one (ds_ret (de_tup (g_cons g_str (g_cons (g_var 3) (g_cons (g_ix hu (g_var 1) (g_call (ok__law_draw ok) hr tk (g_cons (g_var 0) (g_cons de_int g_nil)))) g_nil)))))))
  ds_nil)
  (ds_cons (s_set 3 nd (g_ix hu (de_lst (g_cons g_str (g_cons g_str g_nil))) (g_call (ok__law_draw ok) hr tk (g_cons (g_var 0) (g_cons de_int g_nil)))))
  (ds_cons (s_set 4 nd (g_ix hu (de_lst (g_cons g_str (g_cons g_str (g_cons g_str (g_cons g_str (g_cons g_str g_nil)))))) (g_call (ok__law_draw ok) hr tk (g_cons (g_var 0) (g_cons de_int g_nil)))))
  (ds_cons (s_set 5 nd (de_lst (g_cons (g_call (ok__law_draw ok) hr tk (g_cons (g_var 0) (g_cons de_int g_nil))) (g_cons (g_call (ok__law_draw ok) hr tk (g_cons (g_var 0) (g_cons de_int g_nil))) (g_cons (g_ix hu (de_lst (g_cons de_int (g_cons (g_call (ok__law_draw ok) hr tk (g_cons (g_var 0) (g_cons de_int g_nil))) g_nil))) (g_call (ok__law_draw ok) hr tk (g_cons (g_var 0) (g_cons de_int g_nil)))) g_nil)))))
  (ds_one (ds_ret (de_tup (g_cons g_str (g_cons (g_var 3) (g_cons (g_var 4) (g_cons (g_ix hu (g_var 5) (g_call (ok__law_draw ok) hr tk (g_cons (g_var 0) (g_cons de_int g_nil)))) g_nil)))))))))))))
abbrev N__law_code : List Str := ["decks", "names", "most", "code", "height", "linked", "deck", "k", "pick", "relation"]
theorem d__law_code (G : Good P w K mg CL) (hk : 23 ≤ k) (ok : AllOk P w K mg base CL tab k c) {f : Addr} {cdv : Value} {A : Around} {outer : List Env} {s : Shared} {H : Hp} {E : XK} (hr : Room k (A.deeper (envOfC "_law_code" (defScope (top 19)) s.heap.objs.size f cdv))) :
    DSs (cxOf (L2.CX P w) P w K mg base N__law_code "_law_code" (defScope (top 19)) f cdv A outer s H E) CL (fun cls d _ H => E cls d H) c (defBody (top 19)) b__law_code := by
  have hu := hu_of23 hr hk
  have nd : (N__law_code).Nodup := by decide
  have tk : Takes (cxOf (L2.CX P w) P w K mg base N__law_code "_law_code" (defScope (top 19)) f cdv A outer s H E) (fun cls d _ H => E cls d H) := takes_of rfl rfl rfl rfl
  have po : PassesOwn (model P w) (cxOf (L2.CX P w) P w K mg base N__law_code "_law_code" (defScope (top 19)) f cdv A outer s H E).A (cxOf (L2.CX P w) P w K mg base N__law_code "_law_code" (defScope (top 19)) f cdv A outer s H E).env (cxOf (L2.CX P w) P w K mg base N__law_code "_law_code" (defScope (top 19)) f cdv A outer s H E).xe := passes_of rfl
  exact (ds_cons (s_set 3 nd (de_lst g_nil))
  (ds_cons (s_set 4 nd de_int)
  (ds_cons (s_set 5 nd de_int)
  (ds_cons (ds_for po rfl (di_val (g_var 0)) (g_nm 6 nd)
  (ds_cons (s_set 8 nd (g_call (ok__law_draw ok) hr tk (g_cons (g_var 6) (g_cons de_int g_nil))))
  (ds_one (ds_if (t_w (dw_and (t_ge (g_var 8) de_int) (dw_one (t_ge (g_var 4) de_int))))
  (ds_cons (s_expr (g_meth (mth_append) (g_var 3) (g_cons (de_tup (g_cons (g_ix hu (de_lst (g_cons g_str (g_cons g_str g_nil))) (g_call (ok__law_draw ok) hr tk (g_cons (g_var 6) (g_cons de_int g_nil)))) g_nil)) g_nil)))
  (ds_one (s_set 4 nd (g_sub (g_var 4) de_int))))
  (ds_one (ds_if (t_w (dw_and (t_ge (g_var 8) de_int) (dw_and (t_ge (g_var 4) de_int) (dw_one (t_lt (g_var 5) (g_var 2))))))
  (ds_cons (s_set 9 nd (g_ix hu (de_lst (g_cons g_str (g_cons g_str (g_cons g_str g_nil)))) (g_call (ok__law_draw ok) hr tk (g_cons (g_var 6) (g_cons de_int g_nil)))))
  (ds_cons (s_expr (g_meth (mth_append) (g_var 3) (g_cons (de_tup (g_cons (g_ix hu (de_lst (g_cons g_str (g_cons g_str g_nil))) (g_call (ok__law_draw ok) hr tk (g_cons (g_var 6) (g_cons de_int g_nil)))) (g_cons (g_var 9) g_nil))) g_nil)))
  (ds_one (s_set 5 nd (g_add (g_var 5) de_int)))))
  (ds_one (ds_if (t_w (dw_and (t_eq hu (g_var 8) de_int) (dw_one (t_ge (g_var 4) de_int))))
  (ds_one (s_expr (g_meth (mth_append) (g_var 3) (g_cons (de_tup (g_cons g_str g_nil)) g_nil))))
  (ds_cons (s_expr (g_meth (mth_append) (g_var 3) (g_cons (g_call (ok__law_leaf ok) hr tk (g_cons (g_var 6) (g_cons (g_var 1) g_nil))) g_nil)))
  (ds_one (s_set 4 nd (g_add (g_var 4) de_int))))))))))) (by intro _; rfl))
  (ds_cons (ds_for po rfl (g_rng1 G.n_range (g_sub (g_var 4) de_int)) (g_nm 7 nd)
  (ds_one (s_expr (g_meth (mth_append) (g_var 3) (g_cons (de_tup (g_cons (g_ix hu (de_lst (g_cons g_str (g_cons g_str g_nil))) (g_mod (g_var 7) de_int)) g_nil)) g_nil)))) (by intro _; rfl))
  (ds_one (ds_ret (g_var 3))))))))
abbrev N__law_tree : List Str := ["code", "stack", "token", "right", "left", "inner"]
theorem d__law_tree (G : Good P w K mg CL) (hk : 23 ≤ k) (ok : AllOk P w K mg base CL tab k c) {f : Addr} {cdv : Value} {A : Around} {outer : List Env} {s : Shared} {H : Hp} {E : XK} (hr : Room k (A.deeper (envOfC "_law_tree" (defScope (top 20)) s.heap.objs.size f cdv))) :
    DSs (cxOf (L2.CX P w) P w K mg base N__law_tree "_law_tree" (defScope (top 20)) f cdv A outer s H E) CL (fun cls d _ H => E cls d H) c (defBody (top 20)) b__law_tree := by
  have hu := hu_of23 hr hk
  have nd : (N__law_tree).Nodup := by decide
  have tk : Takes (cxOf (L2.CX P w) P w K mg base N__law_tree "_law_tree" (defScope (top 20)) f cdv A outer s H E) (fun cls d _ H => E cls d H) := takes_of rfl rfl rfl rfl
  have po : PassesOwn (model P w) (cxOf (L2.CX P w) P w K mg base N__law_tree "_law_tree" (defScope (top 20)) f cdv A outer s H E).A (cxOf (L2.CX P w) P w K mg base N__law_tree "_law_tree" (defScope (top 20)) f cdv A outer s H E).env (cxOf (L2.CX P w) P w K mg base N__law_tree "_law_tree" (defScope (top 20)) f cdv A outer s H E).xe := passes_of rfl
  exact (ds_cons (s_set 1 nd (de_lst g_nil))
  (ds_cons (ds_for po rfl (di_val (g_var 0)) (g_nm 2 nd)
  (ds_one (ds_if (t_in hu (g_ix hu (g_var 2) de_int) (de_tup (g_cons g_str (g_cons g_str g_nil))))
  (ds_cons (s_set 3 nd (g_meth0 (mth_pop) (g_var 1)))
  (ds_cons (s_set 4 nd (g_meth0 (mth_pop) (g_var 1)))
  (ds_one (s_expr (g_meth (mth_append) (g_var 1) (g_cons (de_tup (g_cons (g_ix hu (g_var 2) de_int) (g_cons (g_var 4) (g_cons (g_var 3) g_nil)))) g_nil))))))
  (ds_one (ds_if (t_in hu (g_ix hu (g_var 2) de_int) (de_tup (g_cons g_str (g_cons g_str (g_cons g_str g_nil)))))
  (ds_cons (s_set 5 nd (g_meth0 (mth_pop) (g_var 1)))
  (ds_one (s_expr (g_meth (mth_append) (g_var 1) (g_cons (g_add (g_var 2) (de_tup (g_cons (g_var 5) g_nil))) g_nil)))))
  (ds_one (s_expr (g_meth (mth_append) (g_var 1) (g_cons (g_var 2) g_nil)))))))) (by intro _; rfl))
  (ds_one (ds_ret (g_ix hu (g_var 1) de_int)))))
abbrev N__law_test : List Str := ["token", "row", "worth", "fits"]
theorem d__law_test (G : Good P w K mg CL) (hk : 23 ≤ k) (ok : AllOk P w K mg base CL tab k c) {f : Addr} {cdv : Value} {A : Around} {outer : List Env} {s : Shared} {H : Hp} {E : XK} (hr : Room k (A.deeper (envOfC "_law_test" (defScope (top 21)) s.heap.objs.size f cdv))) :
    DSs (cxOf (L2.CX P w) P w K mg base N__law_test "_law_test" (defScope (top 21)) f cdv A outer s H E) CL (fun cls d _ H => E cls d H) c (defBody (top 21)) b__law_test := by
  have hu := hu_of23 hr hk
  have nd : (N__law_test).Nodup := by decide
  have tk : Takes (cxOf (L2.CX P w) P w K mg base N__law_test "_law_test" (defScope (top 21)) f cdv A outer s H E) (fun cls d _ H => E cls d H) := takes_of rfl rfl rfl rfl
  have po : PassesOwn (model P w) (cxOf (L2.CX P w) P w K mg base N__law_test "_law_test" (defScope (top 21)) f cdv A outer s H E).A (cxOf (L2.CX P w) P w K mg base N__law_test "_law_test" (defScope (top 21)) f cdv A outer s H E).env (cxOf (L2.CX P w) P w K mg base N__law_test "_law_test" (defScope (top 21)) f cdv A outer s H E).xe := passes_of rfl
  exact (ds_cons (ds_if (t_eq hu (g_ix hu (g_var 0) de_int) g_str)
  (ds_one (ds_ret (g_ix hu (g_var 1) de_int)))
  ds_nil)
  (ds_cons (ds_if (t_eq hu (g_ix hu (g_var 0) de_int) g_str)
  (ds_one (ds_ret (g_ne hu (g_ix hu (g_var 1) de_int) g_str)))
  ds_nil)
  (ds_cons (ds_if (t_eq hu (g_ix hu (g_var 0) de_int) g_str)
  (ds_cons (ds_if (t_eq hu (g_ix hu (g_var 0) de_int) g_str)
  (ds_one (ds_ret (g_in hu (g_ix hu (g_var 0) de_int) (g_ix hu (g_var 1) de_int))))
  ds_nil)
  (ds_one (ds_ret (g_eq hu (g_ix hu (g_var 1) (g_meth (mth_index hu) (de_lst (g_cons g_str (g_cons g_str (g_cons g_str (g_cons g_str g_nil))))) (g_cons (g_ix hu (g_var 0) de_int) g_nil))) (g_ix hu (g_var 0) de_int)))))
  ds_nil)
  (ds_cons (ds_if (t_eq hu (g_ix hu (g_var 0) de_int) g_str)
  (ds_cons (s_set 2 nd (g_ix hu (g_var 1) de_int))
  (ds_cons (ds_if (t_eq hu (g_ix hu (g_var 0) de_int) g_str)
  (ds_one (s_set 2 nd (g_ix hu (g_var 1) de_int)))
  ds_nil)
  (ds_cons (s_set 3 nd (de_lst (g_cons (g_eq hu (g_var 2) (g_ix hu (g_var 0) de_int)) (g_cons (g_lt (g_var 2) (g_ix hu (g_var 0) de_int)) (g_cons (g_gt (g_var 2) (g_ix hu (g_var 0) de_int)) (g_cons (g_le (g_var 2) (g_ix hu (g_var 0) de_int)) (g_cons (g_ge (g_var 2) (g_ix hu (g_var 0) de_int)) g_nil)))))))
  (ds_one (ds_ret (g_ix hu (g_var 3) (g_meth (mth_index hu) (de_lst (g_cons g_str (g_cons g_str (g_cons g_str (g_cons g_str (g_cons g_str g_nil)))))) (g_cons (g_ix hu (g_var 0) de_int) g_nil))))))))
  ds_nil)
  (ds_one (ds_ret (g_eq hu (g_ix hu (g_var 0) de_int) g_str)))))))
abbrev N__law_truths : List Str := ["code", "rows", "links", "stack", "token", "right", "left", "inner", "at", "found", "link", "hits", "k", "m", "row"]
theorem d__law_truths (G : Good P w K mg CL) (hk : 23 ≤ k) (ok : AllOk P w K mg base CL tab k c) {f : Addr} {cdv : Value} {A : Around} {outer : List Env} {s : Shared} {H : Hp} {E : XK} (hr : Room k (A.deeper (envOfC "_law_truths" (defScope (top 22)) s.heap.objs.size f cdv))) :
    DSs (cxOf (L2.CX P w) P w K mg base N__law_truths "_law_truths" (defScope (top 22)) f cdv A outer s H E) CL (fun cls d _ H => E cls d H) c (defBody (top 22)) b__law_truths := by
  have hu := hu_of23 hr hk
  have nd : (N__law_truths).Nodup := by decide
  have tk : Takes (cxOf (L2.CX P w) P w K mg base N__law_truths "_law_truths" (defScope (top 22)) f cdv A outer s H E) (fun cls d _ H => E cls d H) := takes_of rfl rfl rfl rfl
  have po : PassesOwn (model P w) (cxOf (L2.CX P w) P w K mg base N__law_truths "_law_truths" (defScope (top 22)) f cdv A outer s H E).A (cxOf (L2.CX P w) P w K mg base N__law_truths "_law_truths" (defScope (top 22)) f cdv A outer s H E).env (cxOf (L2.CX P w) P w K mg base N__law_truths "_law_truths" (defScope (top 22)) f cdv A outer s H E).xe := passes_of rfl
  exact (ds_cons (s_set 3 nd (de_lst g_nil))
  (ds_cons (ds_for po rfl (di_val (g_var 0)) (g_nm 4 nd)
  (ds_one (ds_if (t_in hu (g_ix hu (g_var 4) de_int) (de_tup (g_cons g_str (g_cons g_str g_nil))))
  (ds_cons (s_set 5 nd (g_meth0 (mth_pop) (g_var 3)))
  (ds_cons (s_set 6 nd (g_meth0 (mth_pop) (g_var 3)))
  (ds_one (ds_if (t_eq hu (g_ix hu (g_var 4) de_int) g_str)
  (ds_one (s_expr (g_meth (mth_append) (g_var 3) (g_cons (g_comp [(("k" : Str), 12)] rfl nd (g_rng1 G.n_range (g_len G.n_len (g_cons (g_var 1) g_nil))) (fun s H C cl fp => (g_nm 12 nd)) (fun s H C cl fp => pts_none) (fun s H C cl fp => (de_and (g_ix hu (g_var 6) (g_var 12)) (de_one (g_ix hu (g_var 5) (g_var 12)))))) g_nil))))
  (ds_one (s_expr (g_meth (mth_append) (g_var 3) (g_cons (g_comp [(("k" : Str), 12)] rfl nd (g_rng1 G.n_range (g_len G.n_len (g_cons (g_var 1) g_nil))) (fun s H C cl fp => (g_nm 12 nd)) (fun s H C cl fp => pts_none) (fun s H C cl fp => (de_or (g_ix hu (g_var 6) (g_var 12)) (de_one (g_ix hu (g_var 5) (g_var 12)))))) g_nil))))))))
  (ds_one (ds_if (t_eq hu (g_ix hu (g_var 4) de_int) g_str)
  (ds_cons (s_set 7 nd (g_meth0 (mth_pop) (g_var 3)))
  (ds_one (s_expr (g_meth (mth_append) (g_var 3) (g_cons (g_comp [(("k" : Str), 12)] rfl nd (g_rng1 G.n_range (g_len G.n_len (g_cons (g_var 1) g_nil))) (fun s H C cl fp => (g_nm 12 nd)) (fun s H C cl fp => pts_none) (fun s H C cl fp => (de_not (g_ix hu (g_var 7) (g_var 12))))) g_nil)))))
  (ds_one (ds_if (t_in hu (g_ix hu (g_var 4) de_int) (de_tup (g_cons g_str (g_cons g_str g_nil))))
  (ds_cons (s_set 7 nd (g_meth0 (mth_pop) (g_var 3)))
  (ds_cons (s_set 8 nd (g_meth (mth_index hu) (de_lst (g_cons g_str (g_cons g_str (g_cons g_str g_nil)))) (g_cons (g_ix hu (g_var 4) de_int) g_nil)))
  (ds_cons (s_set 9 nd (de_lst g_nil))
  (ds_cons (ds_for po rfl (di_val (g_var 2)) (g_nm 10 nd)
  (ds_cons (s_setc 11 [(("m" : Str), 13)] rfl nd (di_val (g_ix hu (g_var 10) (g_var 8))) (fun s H C cl fp => (g_nm 13 nd)) (fun s H C cl fp => pts_none) (fun s H C cl fp => (g_ix hu (g_var 7) (g_var 13))))
  (ds_one (ds_if (t_eq hu (g_ix hu (g_var 4) de_int) g_str)
  (ds_one (s_expr (g_meth (mth_append) (g_var 9) (g_cons (g_in hu de_bl (g_var 11)) g_nil))))
  (ds_one (s_expr (g_meth (mth_append) (g_var 9) (g_cons (g_nin hu de_bl (g_var 11)) g_nil))))))) (by intro _; rfl))
  (ds_one (s_expr (g_meth (mth_append) (g_var 3) (g_cons (g_var 9) g_nil))))))))
  (ds_one (s_expr (g_meth (mth_append) (g_var 3) (g_cons (g_comp [(("row" : Str), 14)] rfl nd (di_val (g_var 1)) (fun s H C cl fp => (g_nm 14 nd)) (fun s H C cl fp => pts_none) (fun s H C cl fp => (g_call (ok__law_test ok) hr takes00 (g_cons (g_var 4) (g_cons (g_var 14) g_nil))))) g_nil)))))))))) (by intro _; rfl))
  (ds_one (ds_ret (g_ix hu (g_var 3) de_int)))))
abbrev N__law_least : List Str := ["field", "bound"]
theorem d__law_least (G : Good P w K mg CL) (hk : 23 ≤ k) (ok : AllOk P w K mg base CL tab k c) {f : Addr} {cdv : Value} {A : Around} {outer : List Env} {s : Shared} {H : Hp} {E : XK} (hr : Room k (A.deeper (envOfC "_law_least" (defScope (top 23)) s.heap.objs.size f cdv))) :
    DSs (cxOf (L2.CX P w) P w K mg base N__law_least "_law_least" (defScope (top 23)) f cdv A outer s H E) CL (fun cls d _ H => E cls d H) c (defBody (top 23)) b__law_least := by
  have hu := hu_of23 hr hk
  have nd : (N__law_least).Nodup := by decide
  have tk : Takes (cxOf (L2.CX P w) P w K mg base N__law_least "_law_least" (defScope (top 23)) f cdv A outer s H E) (fun cls d _ H => E cls d H) := takes_of rfl rfl rfl rfl
  have po : PassesOwn (model P w) (cxOf (L2.CX P w) P w K mg base N__law_least "_law_least" (defScope (top 23)) f cdv A outer s H E).A (cxOf (L2.CX P w) P w K mg base N__law_least "_law_least" (defScope (top 23)) f cdv A outer s H E).env (cxOf (L2.CX P w) P w K mg base N__law_least "_law_least" (defScope (top 23)) f cdv A outer s H E).xe := passes_of rfl
  exact (ds_cons (ds_if (t_le (g_var 1) de_int)
  (ds_one (ds_ret (de_tup (g_cons g_str g_nil))))
  ds_nil)
  (ds_cons (ds_if (t_w (dw_or (t_gt (g_var 1) de_int) (dw_one' (t_w (dw_and (t_eq hu (g_var 0) g_str) (dw_one (t_gt (g_var 1) de_int)))))))
  (ds_one (ds_ret (de_tup (g_cons g_str g_nil))))
  ds_nil)
  (ds_one (ds_ret (de_tup (g_cons g_str (g_cons (g_var 0) (g_cons (g_var 1) g_nil))))))))
abbrev N__law_core : List Str := ["code", "stack", "token", "word", "right", "left", "inner", "low", "high", "forms"]
theorem d__law_core (G : Good P w K mg CL) (hk : 23 ≤ k) (ok : AllOk P w K mg base CL tab k c) {f : Addr} {cdv : Value} {A : Around} {outer : List Env} {s : Shared} {H : Hp} {E : XK} (hr : Room k (A.deeper (envOfC "_law_core" (defScope (top 24)) s.heap.objs.size f cdv))) :
    DSs (cxOf (L2.CX P w) P w K mg base N__law_core "_law_core" (defScope (top 24)) f cdv A outer s H E) CL (fun cls d _ H => E cls d H) c (defBody (top 24)) b__law_core := by
  have hu := hu_of23 hr hk
  have nd : (N__law_core).Nodup := by decide
  have tk : Takes (cxOf (L2.CX P w) P w K mg base N__law_core "_law_core" (defScope (top 24)) f cdv A outer s H E) (fun cls d _ H => E cls d H) := takes_of rfl rfl rfl rfl
  have po : PassesOwn (model P w) (cxOf (L2.CX P w) P w K mg base N__law_core "_law_core" (defScope (top 24)) f cdv A outer s H E).A (cxOf (L2.CX P w) P w K mg base N__law_core "_law_core" (defScope (top 24)) f cdv A outer s H E).env (cxOf (L2.CX P w) P w K mg base N__law_core "_law_core" (defScope (top 24)) f cdv A outer s H E).xe := passes_of rfl
  exact (ds_cons (s_set 1 nd (de_lst g_nil))
  (ds_cons (ds_for po rfl (di_val (g_var 0)) (g_nm 2 nd)
  (ds_cons (s_set 3 nd (g_ix hu (g_var 2) de_int))
  (ds_one (ds_if (t_in hu (g_var 3) (de_tup (g_cons g_str (g_cons g_str g_nil))))
  (ds_cons (s_set 4 nd (g_meth0 (mth_pop) (g_var 1)))
  (ds_cons (s_set 5 nd (g_meth0 (mth_pop) (g_var 1)))
  (ds_one (s_expr (g_meth (mth_append) (g_var 1) (g_cons (de_tup (g_cons (g_var 3) (g_cons (g_var 5) (g_cons (g_var 4) g_nil)))) g_nil))))))
  (ds_one (ds_if (t_eq hu (g_var 3) g_str)
  (ds_cons (s_set 6 nd (g_meth0 (mth_pop) (g_var 1)))
  (ds_one (s_expr (g_meth (mth_append) (g_var 1) (g_cons (de_tup (g_cons g_str (g_cons (de_tup (g_cons g_str (g_cons (g_ix hu (g_var 2) de_int) (g_cons (de_tup (g_cons g_str (g_cons (g_var 6) g_nil))) g_nil)))) g_nil))) g_nil)))))
  (ds_one (ds_if (t_in hu (g_var 3) (de_tup (g_cons g_str (g_cons g_str g_nil))))
  (ds_cons (s_set 6 nd (g_meth0 (mth_pop) (g_var 1)))
  (ds_one (s_expr (g_meth (mth_append) (g_var 1) (g_cons (g_add (g_var 2) (de_tup (g_cons (g_var 6) g_nil))) g_nil)))))
  (ds_one (ds_if (t_eq hu (g_var 3) g_str)
  (ds_cons (s_set 7 nd (g_call (ok__law_least ok) hr tk (g_cons (g_ix hu (g_var 2) de_int) (g_cons (g_ix hu (g_var 2) de_int) g_nil))))
  (ds_cons (s_set 8 nd (g_call (ok__law_least ok) hr tk (g_cons (g_ix hu (g_var 2) de_int) (g_cons (g_add (g_ix hu (g_var 2) de_int) de_int) g_nil))))
  (ds_cons (s_set 9 nd (de_lst (g_cons (de_tup (g_cons g_str (g_cons (g_var 7) (g_cons (de_tup (g_cons g_str (g_cons (g_var 8) g_nil))) g_nil)))) (g_cons (de_tup (g_cons g_str (g_cons (g_var 7) g_nil))) (g_cons (g_var 8) (g_cons (de_tup (g_cons g_str (g_cons (g_var 8) g_nil))) (g_cons (g_var 7) g_nil)))))))
  (ds_one (s_expr (g_meth (mth_append) (g_var 1) (g_cons (g_ix hu (g_var 9) (g_meth (mth_index hu) (de_lst (g_cons g_str (g_cons g_str (g_cons g_str (g_cons g_str (g_cons g_str g_nil)))))) (g_cons (g_ix hu (g_var 2) de_int) g_nil))) g_nil)))))))
  (ds_one (s_expr (g_meth (mth_append) (g_var 1) (g_cons (g_var 2) g_nil))))))))))))) (by intro _; rfl))
  (ds_one (ds_ret (g_ix hu (g_var 1) de_int)))))
abbrev N__law_tests : List Str := ["demands", "waiting", "tests", "step", "node"]
theorem d__law_tests (G : Good P w K mg CL) (hk : 23 ≤ k) (ok : AllOk P w K mg base CL tab k c) {f : Addr} {cdv : Value} {A : Around} {outer : List Env} {s : Shared} {H : Hp} {E : XK} (hr : Room k (A.deeper (envOfC "_law_tests" (defScope (top 25)) s.heap.objs.size f cdv))) :
    DSs (cxOf (L2.CX P w) P w K mg base N__law_tests "_law_tests" (defScope (top 25)) f cdv A outer s H E) CL (fun cls d _ H => E cls d H) c (defBody (top 25)) b__law_tests := by
  have hu := hu_of23 hr hk
  have nd : (N__law_tests).Nodup := by decide
  have tk : Takes (cxOf (L2.CX P w) P w K mg base N__law_tests "_law_tests" (defScope (top 25)) f cdv A outer s H E) (fun cls d _ H => E cls d H) := takes_of rfl rfl rfl rfl
  have po : PassesOwn (model P w) (cxOf (L2.CX P w) P w K mg base N__law_tests "_law_tests" (defScope (top 25)) f cdv A outer s H E).A (cxOf (L2.CX P w) P w K mg base N__law_tests "_law_tests" (defScope (top 25)) f cdv A outer s H E).env (cxOf (L2.CX P w) P w K mg base N__law_tests "_law_tests" (defScope (top 25)) f cdv A outer s H E).xe := passes_of rfl
  exact (ds_cons (s_set 1 nd (g_list G.n_list (g_cons (g_var 0) g_nil)))
  (ds_cons (s_set 2 nd (de_lst g_nil))
  (ds_cons (ds_for po rfl (g_rng1 G.n_range de_int) (g_nm 3 nd)
  (ds_cons (ds_if (t_eq hu (g_len G.n_len (g_cons (g_var 1) g_nil)) de_int)
  (ds_one ds_break)
  ds_nil)
  (ds_cons (s_set 4 nd (g_meth0 (mth_pop) (g_var 1)))
  (ds_one (ds_if (t_in hu (g_ix hu (g_var 4) de_int) (de_tup (g_cons g_str (g_cons g_str g_nil))))
  (ds_cons (s_expr (g_meth (mth_append) (g_var 1) (g_cons (g_ix hu (g_var 4) de_int) g_nil)))
  (ds_one (s_expr (g_meth (mth_append) (g_var 1) (g_cons (g_ix hu (g_var 4) de_int) g_nil)))))
  (ds_one (ds_if (t_eq hu (g_ix hu (g_var 4) de_int) g_str)
  (ds_one (s_expr (g_meth (mth_append) (g_var 1) (g_cons (g_ix hu (g_var 4) de_int) g_nil))))
  (ds_one (ds_if (t_w (dw_and (t_nin hu (g_ix hu (g_var 4) de_int) (de_tup (g_cons g_str (g_cons g_str g_nil)))) (dw_one (t_nin hu (g_var 4) (g_var 2)))))
  (ds_one (s_expr (g_meth (mth_append) (g_var 2) (g_cons (g_var 4) g_nil))))
  ds_nil)))))))) (by intro _; rfl))
  (ds_one (ds_ret (g_sorted G.n_sorted hu (g_cons (g_var 2) g_nil)))))))
abbrev N__law_value : List Str := ["core", "known", "order", "waiting", "step", "values", "node", "inner", "pair", "found", "row"]
theorem d__law_value (G : Good P w K mg CL) (hk : 23 ≤ k) (ok : AllOk P w K mg base CL tab k c) {f : Addr} {cdv : Value} {A : Around} {outer : List Env} {s : Shared} {H : Hp} {E : XK} (hr : Room k (A.deeper (envOfC "_law_value" (defScope (top 26)) s.heap.objs.size f cdv))) :
    DSs (cxOf (L2.CX P w) P w K mg base N__law_value "_law_value" (defScope (top 26)) f cdv A outer s H E) CL (fun cls d _ H => E cls d H) c (defBody (top 26)) b__law_value := by
  have hu := hu_of23 hr hk
  have nd : (N__law_value).Nodup := by decide
  have tk : Takes (cxOf (L2.CX P w) P w K mg base N__law_value "_law_value" (defScope (top 26)) f cdv A outer s H E) (fun cls d _ H => E cls d H) := takes_of rfl rfl rfl rfl
  have po : PassesOwn (model P w) (cxOf (L2.CX P w) P w K mg base N__law_value "_law_value" (defScope (top 26)) f cdv A outer s H E).A (cxOf (L2.CX P w) P w K mg base N__law_value "_law_value" (defScope (top 26)) f cdv A outer s H E).env (cxOf (L2.CX P w) P w K mg base N__law_value "_law_value" (defScope (top 26)) f cdv A outer s H E).xe := passes_of rfl
  exact (ds_cons (s_set 2 nd (de_lst g_nil))
  (ds_cons (s_set 3 nd (de_lst (g_cons (g_var 0) g_nil)))
  (ds_cons (ds_for po rfl (g_rng1 G.n_range de_int) (g_nm 4 nd)
  (ds_cons (ds_if (t_eq hu (g_len G.n_len (g_cons (g_var 3) g_nil)) de_int)
  (ds_one ds_break)
  ds_nil)
  (ds_cons (s_set 6 nd (g_meth0 (mth_pop) (g_var 3)))
  (ds_cons (s_expr (g_meth (mth_append) (g_var 2) (g_cons (g_var 6) g_nil)))
  (ds_one (ds_if (t_in hu (g_ix hu (g_var 6) de_int) (de_tup (g_cons g_str (g_cons g_str g_nil))))
  (ds_cons (s_expr (g_meth (mth_append) (g_var 3) (g_cons (g_ix hu (g_var 6) de_int) g_nil)))
  (ds_one (s_expr (g_meth (mth_append) (g_var 3) (g_cons (g_ix hu (g_var 6) de_int) g_nil)))))
  (ds_one (ds_if (t_eq hu (g_ix hu (g_var 6) de_int) g_str)
  (ds_one (s_expr (g_meth (mth_append) (g_var 3) (g_cons (g_ix hu (g_var 6) de_int) g_nil))))
  ds_nil))))))) (by intro _; rfl))
  (ds_cons (s_set 5 nd (de_lst g_nil))
  (ds_cons (ds_for po rfl (g_rev G.n_reversed (g_var 2)) (g_nm 6 nd)
  (ds_one (ds_if (t_eq hu (g_ix hu (g_var 6) de_int) g_str)
  (ds_cons (s_set 7 nd (g_meth0 (mth_pop) (g_var 5)))
  (ds_cons (ds_if (dt_notN (g_var 7))
  (ds_one (s_set 7 nd (de_not (g_var 7))))
  ds_nil)
  (ds_one (s_expr (g_meth (mth_append) (g_var 5) (g_cons (g_var 7) g_nil))))))
  (ds_one (ds_if (t_in hu (g_ix hu (g_var 6) de_int) (de_tup (g_cons g_str (g_cons g_str g_nil))))
  (ds_cons (s_set 8 nd (de_lst (g_cons (g_meth0 (mth_pop) (g_var 5)) (g_cons (g_meth0 (mth_pop) (g_var 5)) g_nil))))
  (ds_one (ds_if (t_in hu (g_eq hu (g_ix hu (g_var 6) de_int) g_str) (g_var 8))
  (ds_one (s_expr (g_meth (mth_append) (g_var 5) (g_cons (g_eq hu (g_ix hu (g_var 6) de_int) g_str) g_nil))))
  (ds_one (ds_if (t_in hu de_non (g_var 8))
  (ds_one (s_expr (g_meth (mth_append) (g_var 5) (g_cons de_non g_nil))))
  (ds_one (s_expr (g_meth (mth_append) (g_var 5) (g_cons (g_eq hu (g_ix hu (g_var 6) de_int) g_str) g_nil)))))))))
  (ds_one (ds_if (t_in hu (g_ix hu (g_var 6) de_int) (de_tup (g_cons g_str (g_cons g_str g_nil))))
  (ds_one (s_expr (g_meth (mth_append) (g_var 5) (g_cons (g_eq hu (g_ix hu (g_var 6) de_int) g_str) g_nil))))
  (ds_cons (s_setc 9 [(("row" : Str), 10)] rfl nd (di_val (g_var 1)) (fun s H C cl fp => (g_nm 10 nd)) (fun s H C cl fp => (pts_one (t_eq hu (g_ix hu (g_var 10) de_int) (g_var 6)))) (fun s H C cl fp => (g_ix hu (g_var 10) de_int)))
  (ds_one (s_expr (g_meth (mth_append) (g_var 5) (g_cons (g_ix hu (g_add (g_var 9) (de_lst (g_cons de_non g_nil))) de_int) g_nil))))))))))) (by intro _; rfl))
  (ds_one (ds_ret (g_ix hu (g_var 5) de_int))))))))
abbrev N__law_is_same : List Str := ["told", "due", "waiting", "step", "pair", "k"]
theorem d__law_is_same (G : Good P w K mg CL) (hk : 23 ≤ k) (ok : AllOk P w K mg base CL tab k c) {f : Addr} {cdv : Value} {A : Around} {outer : List Env} {s : Shared} {H : Hp} {E : XK} (hr : Room k (A.deeper (envOfC "_law_is_same" (defScope (top 27)) s.heap.objs.size f cdv))) :
    DSs (cxOf (L2.CX P w) P w K mg base N__law_is_same "_law_is_same" (defScope (top 27)) f cdv A outer s H E) CL (fun cls d _ H => E cls d H) c (defBody (top 27)) b__law_is_same := by
  have hu := hu_of23 hr hk
  have nd : (N__law_is_same).Nodup := by decide
  have tk : Takes (cxOf (L2.CX P w) P w K mg base N__law_is_same "_law_is_same" (defScope (top 27)) f cdv A outer s H E) (fun cls d _ H => E cls d H) := takes_of rfl rfl rfl rfl
  have po : PassesOwn (model P w) (cxOf (L2.CX P w) P w K mg base N__law_is_same "_law_is_same" (defScope (top 27)) f cdv A outer s H E).A (cxOf (L2.CX P w) P w K mg base N__law_is_same "_law_is_same" (defScope (top 27)) f cdv A outer s H E).env (cxOf (L2.CX P w) P w K mg base N__law_is_same "_law_is_same" (defScope (top 27)) f cdv A outer s H E).xe := passes_of rfl
  exact (ds_cons (s_set 2 nd (de_lst (g_cons (de_lst (g_cons (g_var 0) (g_cons (g_var 1) g_nil))) g_nil)))
  (ds_cons (ds_for po rfl (g_rng1 G.n_range de_int) (g_nm 3 nd)
  (ds_cons (ds_if (t_eq hu (g_len G.n_len (g_cons (g_var 2) g_nil)) de_int)
  (ds_one (ds_ret de_bl))
  ds_nil)
  (ds_cons (s_set 4 nd (g_meth0 (mth_pop) (g_var 2)))
  (ds_one (ds_if (t_val (g_isi .tuple G.n_isinstance G.n_tuple (g_ix hu (g_var 4) de_int)))
  (ds_cons (ds_if (t_w (dw_or (dt_not (t_val (g_isi .tuple G.n_isinstance G.n_tuple (g_ix hu (g_var 4) de_int)))) (dw_one' (t_ne hu (g_len G.n_len (g_cons (g_ix hu (g_var 4) de_int) g_nil)) (g_len G.n_len (g_cons (g_ix hu (g_var 4) de_int) g_nil))))))
  (ds_one (ds_ret de_bl))
  ds_nil)
  (ds_one (s_expr (g_meth (mth_extend) (g_var 2) (g_cons (g_comp [(("k" : Str), 5)] rfl nd (g_rng1 G.n_range (g_len G.n_len (g_cons (g_ix hu (g_var 4) de_int) g_nil))) (fun s H C cl fp => (g_nm 5 nd)) (fun s H C cl fp => pts_none) (fun s H C cl fp => (de_lst (g_cons (g_ix hu (g_ix hu (g_var 4) de_int) (g_var 5)) (g_cons (g_ix hu (g_ix hu (g_var 4) de_int) (g_var 5)) g_nil))))) g_nil)))))
  (ds_one (ds_if (t_val (g_isi .str G.n_isinstance G.n_str (g_ix hu (g_var 4) de_int)))
  (ds_one (ds_if (t_w (dw_or (dt_not (t_val (g_isi .str G.n_isinstance G.n_str (g_ix hu (g_var 4) de_int)))) (dw_one' (t_ne hu (g_ix hu (g_var 4) de_int) (g_ix hu (g_var 4) de_int)))))
  (ds_one (ds_ret de_bl))
  ds_nil))
  (ds_one (ds_if (t_w (dw_or (dt_not (t_val (g_isi .int G.n_isinstance G.n_int (g_ix hu (g_var 4) de_int)))) (dw_or (t_val (g_isi .bool G.n_isinstance G.n_bool (g_ix hu (g_var 4) de_int))) (dw_one' (t_ne hu (g_ix hu (g_var 4) de_int) (g_ix hu (g_var 4) de_int))))))
  (ds_one (ds_ret de_bl))
  ds_nil)))))))) (by intro _; rfl))
  (ds_one (ds_ret de_bl))))
abbrev N__law_known : List Str := ["tests", "deck", "known", "test", "turn", "pick"]
theorem d__law_known (G : Good P w K mg CL) (hk : 23 ≤ k) (ok : AllOk P w K mg base CL tab k c) {f : Addr} {cdv : Value} {A : Around} {outer : List Env} {s : Shared} {H : Hp} {E : XK} (hr : Room k (A.deeper (envOfC "_law_known" (defScope (top 28)) s.heap.objs.size f cdv))) :
    DSs (cxOf (L2.CX P w) P w K mg base N__law_known "_law_known" (defScope (top 28)) f cdv A outer s H E) CL (fun cls d _ H => E cls d H) c (defBody (top 28)) b__law_known := by
  have hu := hu_of23 hr hk
  have nd : (N__law_known).Nodup := by decide
  have tk : Takes (cxOf (L2.CX P w) P w K mg base N__law_known "_law_known" (defScope (top 28)) f cdv A outer s H E) (fun cls d _ H => E cls d H) := takes_of rfl rfl rfl rfl
  have po : PassesOwn (model P w) (cxOf (L2.CX P w) P w K mg base N__law_known "_law_known" (defScope (top 28)) f cdv A outer s H E).A (cxOf (L2.CX P w) P w K mg base N__law_known "_law_known" (defScope (top 28)) f cdv A outer s H E).env (cxOf (L2.CX P w) P w K mg base N__law_known "_law_known" (defScope (top 28)) f cdv A outer s H E).xe := passes_of rfl
  exact (ds_cons (s_set 2 nd (de_lst g_nil))
  (ds_cons (ds_for po rfl (di_val (g_var 0)) (g_nm 3 nd)
  (ds_cons (s_set 5 nd (g_call (ok__law_draw ok) hr tk (g_cons (g_var 1) (g_cons de_int g_nil))))
  (ds_one (ds_if (t_gt (g_var 5) de_int)
  (ds_one (s_expr (g_meth (mth_append) (g_var 2) (g_cons (de_tup (g_cons (g_var 3) (g_cons (g_eq hu (g_var 5) de_int) g_nil))) g_nil))))
  ds_nil))) (by intro _; rfl))
  (ds_cons (ds_for po rfl (di_val (de_lst (g_cons (de_tup (g_cons g_str g_nil)) (g_cons (de_tup (g_cons g_str (g_cons g_str (g_cons de_int g_nil)))) (g_cons (de_tup (g_cons g_str (g_cons g_str (g_cons (de_tup (g_cons g_str g_nil)) g_nil)))) (g_cons (de_tup (g_cons g_str (g_cons g_str (g_cons g_str g_nil)))) g_nil)))))) (g_nm 3 nd)
  (ds_one (ds_if (t_w (dw_and (t_nin hu (g_var 3) (g_var 0)) (dw_one (t_eq hu (g_call (ok__law_draw ok) hr tk (g_cons (g_var 1) (g_cons de_int g_nil))) de_int))))
  (ds_one (s_expr (g_meth (mth_append) (g_var 2) (g_cons (de_tup (g_cons (g_var 3) (g_cons (g_eq hu (g_call (ok__law_draw ok) hr tk (g_cons (g_var 1) (g_cons de_int g_nil))) de_int) g_nil))) g_nil))))
  ds_nil)) (by intro _; rfl))
  (ds_cons (s_set 4 nd (g_call (ok__law_draw ok) hr tk (g_cons (g_var 1) (g_cons (g_add (g_len G.n_len (g_cons (g_var 2) g_nil)) de_int) g_nil))))
  (ds_one (ds_ret (g_add (de_cut (g_var 2) (dp_yes (g_var 4)) dp_no) (de_cut (g_var 2) dp_no (dp_yes (g_var 4))))))))))
abbrev N__law_is_value : List Str := ["told", "due"]
theorem d__law_is_value (G : Good P w K mg CL) (hk : 23 ≤ k) (ok : AllOk P w K mg base CL tab k c) {f : Addr} {cdv : Value} {A : Around} {outer : List Env} {s : Shared} {H : Hp} {E : XK} (hr : Room k (A.deeper (envOfC "_law_is_value" (defScope (top 29)) s.heap.objs.size f cdv))) :
    DSs (cxOf (L2.CX P w) P w K mg base N__law_is_value "_law_is_value" (defScope (top 29)) f cdv A outer s H E) CL (fun cls d _ H => E cls d H) c (defBody (top 29)) b__law_is_value := by
  have hu := hu_of23 hr hk
  have nd : (N__law_is_value).Nodup := by decide
  have tk : Takes (cxOf (L2.CX P w) P w K mg base N__law_is_value "_law_is_value" (defScope (top 29)) f cdv A outer s H E) (fun cls d _ H => E cls d H) := takes_of rfl rfl rfl rfl
  have po : PassesOwn (model P w) (cxOf (L2.CX P w) P w K mg base N__law_is_value "_law_is_value" (defScope (top 29)) f cdv A outer s H E).A (cxOf (L2.CX P w) P w K mg base N__law_is_value "_law_is_value" (defScope (top 29)) f cdv A outer s H E).env (cxOf (L2.CX P w) P w K mg base N__law_is_value "_law_is_value" (defScope (top 29)) f cdv A outer s H E).xe := passes_of rfl
  exact (ds_cons (ds_if (dt_isN (g_var 1))
  (ds_one (ds_ret (de_isN (g_var 0))))
  ds_nil)
  (ds_one (ds_ret (de_and (g_isi .bool G.n_isinstance G.n_bool (g_var 0)) (de_one (g_eq hu (g_var 0) (g_var 1)))))))
abbrev N__law_on_card : List Str := ["test", "row"]
theorem d__law_on_card (G : Good P w K mg CL) (hk : 23 ≤ k) (ok : AllOk P w K mg base CL tab k c) {f : Addr} {cdv : Value} {A : Around} {outer : List Env} {s : Shared} {H : Hp} {E : XK} (hr : Room k (A.deeper (envOfC "_law_on_card" (defScope (top 30)) s.heap.objs.size f cdv))) :
    DSs (cxOf (L2.CX P w) P w K mg base N__law_on_card "_law_on_card" (defScope (top 30)) f cdv A outer s H E) CL (fun cls d _ H => E cls d H) c (defBody (top 30)) b__law_on_card := by
  have hu := hu_of23 hr hk
  have nd : (N__law_on_card).Nodup := by decide
  have tk : Takes (cxOf (L2.CX P w) P w K mg base N__law_on_card "_law_on_card" (defScope (top 30)) f cdv A outer s H E) (fun cls d _ H => E cls d H) := takes_of rfl rfl rfl rfl
  have po : PassesOwn (model P w) (cxOf (L2.CX P w) P w K mg base N__law_on_card "_law_on_card" (defScope (top 30)) f cdv A outer s H E).A (cxOf (L2.CX P w) P w K mg base N__law_on_card "_law_on_card" (defScope (top 30)) f cdv A outer s H E).env (cxOf (L2.CX P w) P w K mg base N__law_on_card "_law_on_card" (defScope (top 30)) f cdv A outer s H E).xe := passes_of rfl
  exact (ds_cons (ds_if (t_eq hu (g_ix hu (g_var 0) de_int) g_str)
  (ds_one (ds_ret (g_ge (g_ix hu (g_var 1) (g_add de_int (g_meth (mth_index hu) (de_lst (g_cons g_str (g_cons g_str g_nil))) (g_cons (g_ix hu (g_var 0) de_int) g_nil)))) (g_ix hu (g_var 0) de_int))))
  ds_nil)
  (ds_one (ds_ret (g_call (ok__law_test ok) hr tk (g_cons (g_var 0) (g_cons (g_var 1) g_nil))))))
abbrev N__law_card_side : List Str := ["deck", "decks", "names", "code", "labels", "owner", "row", "core", "due", "known", "at", "told", "name", "test"]
theorem d__law_card_side (G : Good P w K mg CL) (hk : 23 ≤ k) (ok : AllOk P w K mg base CL tab k c) {f : Addr} {cdv : Value} {A : Around} {outer : List Env} {s : Shared} {H : Hp} {E : XK} (hr : Room k (A.deeper (envOfC "_law_card_side" (defScope (top 31)) s.heap.objs.size f cdv))) :
    DSs (cxOf (L2.CX P w) P w K mg base N__law_card_side "_law_card_side" (defScope (top 31)) f cdv A outer s H E) CL (fun cls d _ H => E cls d H) c (defBody (top 31)) b__law_card_side := by
  have hu := hu_of23 hr hk
  have nd : (N__law_card_side).Nodup := by decide
  have tk : Takes (cxOf (L2.CX P w) P w K mg base N__law_card_side "_law_card_side" (defScope (top 31)) f cdv A outer s H E) (fun cls d _ H => E cls d H) := takes_of rfl rfl rfl rfl
  have po : PassesOwn (model P w) (cxOf (L2.CX P w) P w K mg base N__law_card_side "_law_card_side" (defScope (top 31)) f cdv A outer s H E).A (cxOf (L2.CX P w) P w K mg base N__law_card_side "_law_card_side" (defScope (top 31)) f cdv A outer s H E).env (cxOf (L2.CX P w) P w K mg base N__law_card_side "_law_card_side" (defScope (top 31)) f cdv A outer s H E).xe := passes_of rfl
  exact (ds_cons (s_set 3 nd (g_call (ok__law_code ok) hr tk (g_cons (de_cut (g_var 1) dp_no (dp_yes (g_add de_int (g_call (ok__law_draw ok) hr tk (g_cons (g_var 0) (g_cons de_int g_nil)))))) (g_cons (g_var 2) (g_cons de_int g_nil)))))
  (ds_cons (s_setc 4 [(("name" : Str), 12)] rfl nd (di_val (g_var 2)) (fun s H C cl fp => (g_nm 12 nd)) (fun s H C cl fp => (pts_one (t_eq hu (g_call (ok__law_draw ok) hr takes00 (g_cons (g_var 0) (g_cons de_int g_nil))) de_int))) (fun s H C cl fp => (g_var 12)))
  (ds_cons (s_set 5 nd (g_ix hu (g_add (g_var 2) (de_lst (g_cons g_str (g_cons g_str g_nil)))) (g_call (ok__law_draw ok) hr tk (g_cons (g_var 0) (g_cons de_int g_nil)))))
  (ds_cons (s_set 6 nd (de_tup (g_cons (g_ix hu (g_var 2) (g_call (ok__law_draw ok) hr tk (g_cons (g_var 0) (g_cons de_int g_nil)))) (g_cons (g_ix hu (g_var 2) (g_call (ok__law_draw ok) hr tk (g_cons (g_var 0) (g_cons de_int g_nil)))) (g_cons (g_eq hu (g_call (ok__law_draw ok) hr tk (g_cons (g_var 0) (g_cons de_int g_nil))) de_int) (g_cons (g_var 5) g_nil))))))
  (ds_cons (s_set 6 nd (g_add (g_var 6) (de_tup (g_cons (g_call (ok__law_draw ok) hr tk (g_cons (g_var 0) (g_cons de_int g_nil))) (g_cons (g_call (ok__law_draw ok) hr tk (g_cons (g_var 0) (g_cons de_int g_nil))) (g_cons (g_var 4) g_nil))))))
  (ds_cons (s_set 7 nd (g_call (ok_core_form ok) hr tk (g_cons (g_call (ok__law_tree ok) hr tk (g_cons (g_var 3) g_nil)) g_nil)))
  (ds_cons (s_set 8 nd (g_ix hu (g_call (ok__law_truths ok) hr tk (g_cons (g_var 3) (g_cons (de_lst (g_cons (g_var 6) g_nil)) (g_cons (de_lst (g_cons (de_lst (g_cons (de_lst g_nil) (g_cons (de_lst g_nil) (g_cons (de_lst g_nil) g_nil)))) g_nil)) g_nil)))) de_int))
  (ds_cons (s_setc 9 [(("test" : Str), 13)] rfl nd (di_val (g_call (ok__law_tests ok) hr tk (g_cons (de_lst (g_cons (g_call (ok__law_core ok) hr tk (g_cons (g_var 3) g_nil)) g_nil)) g_nil))) (fun s H C cl fp => (g_nm 13 nd)) (fun s H C cl fp => pts_none) (fun s H C cl fp => (de_tup (g_cons (g_var 13) (g_cons (g_call (ok__law_on_card ok) hr takes00 (g_cons (g_var 13) (g_cons (g_var 6) g_nil))) g_nil)))))
  (ds_cons (ds_if (dt_not (t_val (g_call (ok__law_is_value ok) hr tk (g_cons (g_call (ok_value_under ok) hr tk (g_cons (g_var 7) (g_cons (g_tuple G.n_tuple (g_cons (g_var 9) g_nil)) g_nil))) (g_cons (g_var 8) g_nil)))))
  (ds_one (ds_ret de_bl))
  ds_nil)
  (ds_cons (s_set 10 nd (g_call (ok__law_draw ok) hr tk (g_cons (g_var 0) (g_cons (g_add (g_len G.n_len (g_cons (g_var 9) g_nil)) de_int) g_nil))))
  (ds_cons (s_set 11 nd (g_call (ok_value_under ok) hr tk (g_cons (g_var 7) (g_cons (g_tuple G.n_tuple (g_cons (g_add (de_cut (g_var 9) dp_no (dp_yes (g_var 10))) (de_cut (g_var 9) (dp_yes (g_add (g_var 10) de_int)) dp_no)) g_nil)) g_nil))))
  (ds_one (ds_ret (de_or (de_isN (g_var 11)) (de_one (g_call (ok__law_is_value ok) hr tk (g_cons (g_var 11) (g_cons (g_var 8) g_nil))))))))))))))))))
abbrev N_law : List Str := ["script", "decks", "deck", "names", "code", "more", "due", "core", "tests", "k", "known"]
theorem d_law (G : Good P w K mg CL) (hk : 23 ≤ k) (ok : AllOk P w K mg base CL tab k c) {f : Addr} {cdv : Value} {A : Around} {outer : List Env} {s : Shared} {H : Hp} {E : XK} (hr : Room k (A.deeper (envOfC "law" (defScope (top 32)) s.heap.objs.size f cdv))) :
    DSs (cxOf (L2.CX P w) P w K mg base N_law "law" (defScope (top 32)) f cdv A outer s H E) CL (fun cls d _ H => E cls d H) c (defBody (top 32)) b_law := by
  have hu := hu_of23 hr hk
  have nd : (N_law).Nodup := by decide
  have tk : Takes (cxOf (L2.CX P w) P w K mg base N_law "law" (defScope (top 32)) f cdv A outer s H E) (fun cls d _ H => E cls d H) := takes_of rfl rfl rfl rfl
  have po : PassesOwn (model P w) (cxOf (L2.CX P w) P w K mg base N_law "law" (defScope (top 32)) f cdv A outer s H E).A (cxOf (L2.CX P w) P w K mg base N_law "law" (defScope (top 32)) f cdv A outer s H E).env (cxOf (L2.CX P w) P w K mg base N_law "law" (defScope (top 32)) f cdv A outer s H E).xe := passes_of rfl
  exact (ds_cons (s_set 1 nd (g_call (ok__law_decks ok) hr tk (g_cons (g_var 0) g_nil)))
  (ds_cons (s_set 2 nd (g_ix hu (g_var 1) de_int))
  (ds_cons (s_set 3 nd (g_call (ok__law_names ok) hr tk (g_cons (de_cut (g_var 1) (dp_yes de_int) (dp_yes de_int)) g_nil)))
  (ds_cons (s_set 4 nd (g_call (ok__law_code ok) hr tk (g_cons (de_cut (g_var 1) (dp_yes de_int) (dp_yes (g_add de_int (g_call (ok__law_draw ok) hr tk (g_cons (g_var 2) (g_cons de_int g_nil)))))) (g_cons (g_var 3) (g_cons de_int g_nil)))))
  (ds_cons (s_set 5 nd (g_mul (de_lst (g_cons (de_tup (g_cons g_str g_nil)) g_nil)) (g_ix hu (de_lst (g_cons de_int (g_cons de_int (g_cons de_int (g_cons (g_call (ok__law_draw ok) hr tk (g_cons (g_var 2) (g_cons de_int g_nil))) g_nil))))) (g_call (ok__law_draw ok) hr tk (g_cons (g_var 2) (g_cons de_int g_nil))))))
  (ds_cons (ds_if (t_eq hu (g_call (ok__law_draw ok) hr tk (g_cons (g_var 2) (g_cons de_int g_nil))) de_int)
  (ds_one (s_set 4 nd (g_add (g_var 4) (g_var 5))))
  (ds_one (s_set 4 nd (g_add (g_add (de_cut (g_var 4) dp_no (dp_yes de_int)) (g_var 5)) (de_cut (g_var 4) (dp_yes de_int) dp_no)))))
  (ds_cons (s_set 6 nd (g_call (ok__law_core ok) hr tk (g_cons (g_var 4) g_nil)))
  (ds_cons (s_set 7 nd (g_call (ok_core_form ok) hr tk (g_cons (g_call (ok__law_tree ok) hr tk (g_cons (g_var 4) g_nil)) g_nil)))
  (ds_cons (s_set 8 nd (g_call (ok__law_tests ok) hr tk (g_cons (de_lst (g_cons (g_var 6) g_nil)) g_nil)))
  (ds_cons (ds_if (t_w (dw_or (dt_not (t_val (g_call (ok__law_is_same ok) hr tk (g_cons (g_var 7) (g_cons (g_var 6) g_nil))))) (dw_one' (dt_not (t_val (g_call (ok__law_is_same ok) hr tk (g_cons (g_call (ok_tests_of ok) hr tk (g_cons (g_var 7) g_nil)) (g_cons (g_tuple G.n_tuple (g_cons (g_var 8) g_nil)) g_nil))))))))
  (ds_one (ds_ret de_bl))
  ds_nil)
  (ds_cons (ds_for po rfl (g_rng1 G.n_range de_int) (g_nm 9 nd)
  (ds_cons (s_set 10 nd (g_call (ok__law_known ok) hr tk (g_cons (g_var 8) (g_cons (g_ix hu (g_var 1) (g_add de_int (g_var 9))) g_nil))))
  (ds_one (ds_if (dt_not (t_val (g_call (ok__law_is_value ok) hr tk (g_cons (g_call (ok_value_under ok) hr tk (g_cons (g_var 7) (g_cons (g_tuple G.n_tuple (g_cons (g_var 10) g_nil)) g_nil))) (g_cons (g_call (ok__law_value ok) hr tk (g_cons (g_var 6) (g_cons (g_var 10) g_nil))) g_nil)))))
  (ds_one (ds_ret de_bl))
  ds_nil))) (by intro _; rfl))
  (ds_one (ds_ret (g_call (ok__law_card_side ok) hr tk (g_cons (g_var 2) (g_cons (de_cut (g_var 1) (dp_yes de_int) dp_no) (g_cons (g_var 3) g_nil)))))))))))))))))
end
end K24
namespace K24
open PySem L2 Ev
noncomputable abbrev T : List FnD := tab.map (·.2.2)
abbrev wAll : List Nat := [97, 108, 108]
abbrev wNone : List Nat := [110, 111, 110, 101]
abbrev wClosed : List Nat := [99, 108, 111, 115, 101, 100]
abbrev wOwned : List Nat := [111, 119, 110, 101, 100]
abbrev wIs : List Nat := [105, 115]
abbrev wNum : List Nat := [110, 117, 109]
abbrev wNot : List Nat := [110, 111, 116]
abbrev wAnd : List Nat := [97, 110, 100]
abbrev wOr : List Nat := [111, 114]
abbrev wSome : List Nat := [115, 111, 109, 101]
abbrev wEvery : List Nat := [101, 118, 101, 114, 121]
abbrev wLeast : List Nat := [108, 101, 97, 115, 116]
abbrev wPrio : List Nat := [112, 114, 105, 111, 114, 105, 116, 121]
abbrev wPoints : List Nat := [112, 111, 105, 110, 116, 115]
inductive Pl where
  | all | none | closed | owned
  deriving DecidableEq
def Pl.w : Pl → List Nat
  | .all => wAll | .none => wNone | .closed => wClosed | .owned => wOwned
inductive Sg where
  | eq | lt | gt | le | ge
  deriving DecidableEq
def Sg.w : Sg → List Nat
  | .eq => [61] | .lt => [60] | .gt => [62] | .le => [60, 61] | .ge => [62, 61]
/-- the field of a number: priority or points -/
def fw (f : Bool) : List Nat := if f then wPrio else wPoints
def bw (o : Bool) : List Nat := if o then wOr else wAnd
def lw (e : Bool) : List Nat := if e then wEvery else wSome
inductive Q where
  | pl (p : Pl) | is (f n : List Nat) | num (f : Bool) (s : Sg) (b : Int)
  | not (q : Q) | bin (o : Bool) (a b : Q) | link (e : Bool) (r : List Nat) (q : Q)
inductive C where
  | pl (p : Pl) | is (f n : List Nat) | least (f : Bool) (b : Int)
  | not (q : C) | bin (o : Bool) (a b : C) | some (r : List Nat) (q : C)
  deriving DecidableEq
def Q.d : Q → D
  | .pl p => .tup [.str p.w]
  | .is f n => .tup [.str wIs, .str f, .str n]
  | .num f s b => .tup [.str wNum, .str (fw f), .str s.w, .int b]
  | .not q => .tup [.str wNot, q.d]
  | .bin o a b => .tup [.str (bw o), a.d, b.d]
  | .link e r q => .tup [.str (lw e), .str r, q.d]
def C.d : C → D
  | .pl p => .tup [.str p.w]
  | .is f n => .tup [.str wIs, .str f, .str n]
  | .least f b => .tup [.str wLeast, .str (fw f), .int b]
  | .not q => .tup [.str wNot, q.d]
  | .bin o a b => .tup [.str (bw o), a.d, b.d]
  | .some r q => .tup [.str wSome, .str r, q.d]
def topf (f : Bool) : Int := if f then 4 else 20
def atLeast (f : Bool) (b : Int) : C := if b ≤ 0 then .pl .all else if topf f < b then .pl .none else .least f b
def coreNum (f : Bool) (s : Sg) (b : Int) : C := match s with
  | .ge => atLeast f b
  | .gt => atLeast f (b + 1)
  | .lt => .not (atLeast f b)
  | .le => .not (atLeast f (b + 1))
  | .eq => .bin false (atLeast f b) (.not (atLeast f (b + 1)))
def core : Q → C
  | .pl p => .pl p
  | .is f n => .is f n
  | .num f s b => coreNum f s b
  | .not q => .not (core q)
  | .bin o a b => .bin o (core a) (core b)
  | .link false r q => .some r (core q)
  | .link true r q => .not (.some r (.not (core q)))
def Q.ht : Q → Nat
  | .not q => q.ht + 1
  | .bin _ a b => max a.ht b.ht + 1
  | .link _ _ q => q.ht + 1
  | _ => 0
def C.ht : C → Nat
  | .not q => q.ht + 1
  | .bin _ a b => max a.ht b.ht + 1
  | .some _ q => q.ht + 1
  | _ => 0
theorem Q.plain : ∀ q : Q, q.d.plain = true
  | .pl p => by simp [Q.d, D.plain, D.plainA]
  | .is f n => by simp [Q.d, D.plain, D.plainA]
  | .num f s b => by simp [Q.d, D.plain, D.plainA]
  | .not q => by simp [Q.d, D.plain, D.plainA, q.plain]
  | .bin o a b => by simp [Q.d, D.plain, D.plainA, a.plain, b.plain]
  | .link e r q => by simp [Q.d, D.plain, D.plainA, q.plain]
theorem C.plain : ∀ q : C, q.d.plain = true
  | .pl p => by simp [C.d, D.plain, D.plainA]
  | .is f n => by simp [C.d, D.plain, D.plainA]
  | .least f b => by simp [C.d, D.plain, D.plainA]
  | .not q => by simp [C.d, D.plain, D.plainA, q.plain]
  | .bin o a b => by simp [C.d, D.plain, D.plainA, a.plain, b.plain]
  | .some r q => by simp [C.d, D.plain, D.plainA, q.plain]
theorem C.dep : ∀ q : C, q.d.dep = q.ht + 1
  | .pl p => by simp [C.d, D.dep, D.depA, C.ht]
  | .is f n => by simp [C.d, D.dep, D.depA, C.ht]
  | .least f b => by simp [C.d, D.dep, D.depA, C.ht]
  | .not q => by simp [C.d, D.dep, D.depA, C.ht, q.dep]
  | .bin o a b => by simp [C.d, D.dep, D.depA, C.ht, a.dep, b.dep]
  | .some r q => by simp [C.d, D.dep, D.depA, C.ht, q.dep]
theorem Q.lo (n : Nat) (q : Q) : q.d.lo n := plain_lo q.plain
theorem C.lo (n : Nat) (q : C) : q.d.lo n := plain_lo q.plain
/-! ### the core form -/
theorem fw_cases (f : Bool) : fw f = wPrio ∧ f = true ∨ fw f = wPoints ∧ f = false := by cases f <;> simp [fw]
theorem c_top {n : Nat} {f : Bool} {h : Hd} (hn : 1 ≤ n) : callN T n 0 [.str (fw f)] h = .ok (.int (topf f)) h := by
  obtain ⟨m, rfl⟩ := lvl hn
  rw [call_at (F := ⟨1, 1, b_top_of⟩) rfl]
  cases f <;> simp [runFn, b_top_of, dEq, cmpOk, D.plain, near, D.dep, D.see, fin1_same, fw, topf]
theorem c_least {n : Nat} {f : Bool} {b : Int} {h : Hd} (hn : 2 ≤ n) : callN T n 1 [.str (fw f), .int b] h = .ok (atLeast f b).d h := by
  obtain ⟨m, rfl⟩ := lvl hn
  rw [call_at (F := ⟨2, 2, b_at_least⟩) rfl]
  have e := c_top (n := m + 1) (f := f) (h := h) (by omega)
  generalize callN T (m + 1) = c at e ⊢
  by_cases h1 : b ≤ 0
  · simp [runFn, b_at_least, dCmp, h1, fin1_same, atLeast, C.d, Pl.w]
  · by_cases h2 : topf f < b
    · simp [runFn, b_at_least, dCmp, h1, h2, e, fin1_same, atLeast, C.d, Pl.w]
    · simp [runFn, b_at_least, dCmp, h1, h2, e, fin1_same, atLeast, C.d]
theorem c_num {n : Nat} {f : Bool} {s : Sg} {b : Int} {h : Hd} (hn : 3 ≤ n) : callN T n 2 [(Q.num f s b).d] h = .ok (coreNum f s b).d h := by
  obtain ⟨m, rfl⟩ := lvl hn
  rw [call_at (F := ⟨1, 6, b_core_number⟩) rfl]
  have e1 := c_least (n := m + 2) (f := f) (b := b) (h := h) (by omega)
  have e2 := c_least (n := m + 2) (f := f) (b := b + 1) (h := h) (by omega)
  have l1 := (atLeast f b).lo h.length
  have l2 := (atLeast f (b + 1)).lo h.length
  generalize callN T (m + 2) = c at e1 e2 ⊢
  cases s <;> simp [runFn, b_core_number, Q.d, asg, setAll, dEq, cmpOk, D.plain, near, D.dep, D.see, Sg.w, e1, e2, dAdd, fin1_same, coreNum, C.d, l1, l2, bw]
theorem dIx_tup {xs : List D} {k : Nat} {x : D} (h : Hd) (e : xs[k]? = some x) : dIx (.tup xs) (.int k) h = .ok x h := by
  have hk := (List.getElem?_eq_some_iff.mp e).1
  rw [List.getElem?_eq_getElem hk] at e
  cases e
  simp [dIx, dIxS, D.dict?, D.see, ixI, hk]
theorem ix0 {x : D} {r : List D} (h : Hd) : dIx (.tup (x :: r)) (.int 0) h = .ok x h := dIx_tup (k := 0) h rfl
theorem ix1 {x y : D} {r : List D} (h : Hd) : dIx (.tup (x :: y :: r)) (.int 1) h = .ok y h := dIx_tup (k := 1) h rfl
theorem ix2 {x y z : D} {r : List D} (h : Hd) : dIx (.tup (x :: y :: z :: r)) (.int 2) h = .ok z h := dIx_tup (k := 2) h rfl
theorem ix3 {x y z u : D} {r : List D} (h : Hd) : dIx (.tup (x :: y :: z :: u :: r)) (.int 3) h = .ok u h := dIx_tup (k := 3) h rfl
theorem eq_w {x y : List Nat} (h : Hd) : dEq false (.str x) (.str y) h = .ok (.bl (x == y)) h := by
  simp [dEq, cmpOk, D.plain, near, D.dep, D.see]
theorem in_w2 {x a b : List Nat} (h : Hd) : dIn false (.str x) (.tup [.str a, .str b]) h = .ok (.bl (a == x || b == x)) h := by
  simp [dIn, dInS, D.dict?, D.see, cmpOk, D.plain, D.plainA, near, D.dep, D.depA, has_str, has_nil]
theorem in_w3 {x a b d : List Nat} (h : Hd) : dIn false (.str x) (.tup [.str a, .str b, .str d]) h = .ok (.bl (a == x || (b == x || d == x))) h := by
  simp [dIn, dInS, D.dict?, D.see, cmpOk, D.plain, D.plainA, near, D.dep, D.depA, has_str, has_nil]
theorem nin_w2 {x a b : List Nat} (h : Hd) : dIn true (.str x) (.tup [.str a, .str b]) h = .ok (.bl (!(a == x || b == x))) h := by
  simp [dIn, dInS, D.dict?, D.see, cmpOk, D.plain, D.plainA, near, D.dep, D.depA, has_str, has_nil]
theorem c_core : ∀ (q : Q) (n : Nat) (h : Hd), q.ht + 4 ≤ n → callN T n 3 [q.d] h = .ok (core q).d h
  | .pl p, n, h, hn => by
    obtain ⟨m, rfl⟩ := lvl (k := 1) (n := n) (by omega)
    rw [call_at (F := ⟨1, 2, b_core_form⟩) rfl]
    cases p <;> simp [runFn, b_core_form, Q.d, ix0, eq_w, in_w2, Pl.w, fin1_same, core, C.d]
  | .is f w, n, h, hn => by
    obtain ⟨m, rfl⟩ := lvl (k := 1) (n := n) (by omega)
    rw [call_at (F := ⟨1, 2, b_core_form⟩) rfl]
    simp [runFn, b_core_form, Q.d, ix0, eq_w, in_w2, fin1_same, core, C.d]
  | .num f s b, n, h, hn => by
    obtain ⟨m, rfl⟩ := lvl (k := 4) (n := n) (by omega)
    rw [call_at (F := ⟨1, 2, b_core_form⟩) rfl]
    have e := c_num (n := m + 3) (f := f) (s := s) (b := b) (h := h) (by omega)
    have l := (coreNum f s b).lo h.length
    generalize callN T (m + 3) = c at e ⊢
    simp only [Q.d] at e
    simp [runFn, b_core_form, Q.d, ix0, eq_w, in_w2, e, fin1_same, core, l]
  | .not q, n, h, hn => by
    obtain ⟨m, rfl⟩ := lvl (k := 1) (n := n) (by omega)
    rw [call_at (F := ⟨1, 2, b_core_form⟩) rfl]
    have e := c_core q m h (by simp only [Q.ht] at hn; omega)
    have l := (core q).lo h.length
    generalize callN T m = c at e ⊢
    simp [runFn, b_core_form, Q.d, ix0, ix1, eq_w, in_w2, e, fin1_same, core, C.d, l]
  | .bin o a b, n, h, hn => by
    obtain ⟨m, rfl⟩ := lvl (k := 1) (n := n) (by omega)
    rw [call_at (F := ⟨1, 2, b_core_form⟩) rfl]
    have e1 := c_core a m h (by simp only [Q.ht] at hn; omega)
    have e2 := c_core b m h (by simp only [Q.ht] at hn; omega)
    have l1 := (core a).lo h.length
    have l2 := (core b).lo h.length
    generalize callN T m = c at e1 e2 ⊢
    cases o <;> simp [runFn, b_core_form, Q.d, bw, ix0, ix1, ix2, eq_w, in_w2, e1, e2, fin1_same, core, C.d, l1, l2]
  | .link e r q, n, h, hn => by
    obtain ⟨m, rfl⟩ := lvl (k := 1) (n := n) (by omega)
    rw [call_at (F := ⟨1, 2, b_core_form⟩) rfl]
    have e1 := c_core q m h (by simp only [Q.ht] at hn; omega)
    have l := (core q).lo h.length
    generalize callN T m = c at e1 ⊢
    cases e <;> simp [runFn, b_core_form, Q.d, lw, ix0, ix1, ix2, eq_w, in_w2, e1, fin1_same, core, C.d, l]
end K24

namespace K24
open PySem L2 Ev
open PyProof.Rows (lexLt itemOrd lex_negTrans lex_total lex_irrefl)
open PySem.W (dataLt keyToks)
/-! ### comparing -/
theorem fw_inj {a b : Bool} : fw a = fw b ↔ a = b := by cases a <;> cases b <;> simp [fw]
theorem bw_inj {a b : Bool} : bw a = bw b ↔ a = b := by cases a <;> cases b <;> simp [bw]
theorem pl_inj {a b : Pl} : a.w = b.w ↔ a = b := by cases a <;> cases b <;> simp [Pl.w]
theorem beq_dec (a b : List Nat) : (a == b) = decide (a = b) := by
  by_cases h : a = b <;> simp [h]
theorem beq_decI (a b : Int) : (a == b) = decide (a = b) := by
  by_cases h : a = b <;> simp [h]
theorem eqv_C : ∀ a b : C, D.eqv a.d b.d = decide (a = b)
  | .pl p, b => by
    cases b with
    | pl q => simp [C.d, eqv_tup, eqvA_cons, eqvA_nil, eqvA_nc, eqvA_cn, beq_dec, pl_inj]
    | _ => simp [C.d, eqv_tup, eqvA_cons, eqvA_nil, eqvA_nc, eqvA_cn]
  | .is f n, b => by
    cases b with
    | is f' n' => simp [C.d, eqv_tup, eqvA_cons, eqvA_nil, eqvA_nc, eqvA_cn, beq_dec]
    | bin o x y => cases o <;> simp [C.d, eqv_tup, eqvA_cons, eqvA_nil, eqvA_nc, eqvA_cn, bw]
    | _ => simp [C.d, eqv_tup, eqvA_cons, eqvA_nil, eqvA_nc, eqvA_cn]
  | .least f n, b => by
    cases b with
    | least f' n' => simp [C.d, eqv_tup, eqvA_cons, eqvA_nil, eqvA_nc, eqvA_cn, beq_dec, beq_decI, fw_inj]
    | bin o x y => cases o <;> simp [C.d, eqv_tup, eqvA_cons, eqvA_nil, eqvA_nc, eqvA_cn, bw]
    | _ => simp [C.d, eqv_tup, eqvA_cons, eqvA_nil, eqvA_nc, eqvA_cn]
  | .not q, b => by
    cases b with
    | not q' => simp [C.d, eqv_tup, eqvA_cons, eqvA_nil, eqvA_nc, eqvA_cn, eqv_C q q']
    | _ => simp [C.d, eqv_tup, eqvA_cons, eqvA_nil, eqvA_nc, eqvA_cn]
  | .bin o x y, b => by
    cases b with
    | bin o' x' y' => simp [C.d, eqv_tup, eqvA_cons, eqvA_nil, eqvA_nc, eqvA_cn, eqv_C x x', eqv_C y y', beq_dec, bw_inj]
    | _ => cases o <;> simp [C.d, eqv_tup, eqvA_cons, eqvA_nil, eqvA_nc, eqvA_cn, bw]
  | .some r q, b => by
    cases b with
    | some r' q' => simp [C.d, eqv_tup, eqvA_cons, eqvA_nil, eqvA_nc, eqvA_cn, eqv_C q q', beq_dec]
    | bin o x y => cases o <;> simp [C.d, eqv_tup, eqvA_cons, eqvA_nil, eqvA_nc, eqvA_cn, bw]
    | _ => simp [C.d, eqv_tup, eqvA_cons, eqvA_nil, eqvA_nc, eqvA_cn]
theorem cmpb_str (a b : PySem.Str) : cmpb (.str a) (.str b) = true := by simp [cmpb]
theorem cmpb_int (a b : Int) : cmpb (.int a) (.int b) = true := by simp [cmpb]
theorem cmpb_tup (a b : List PyData) : cmpb (.tuple a) (.tuple b) = cmpbA a b := by rw [cmpb]
theorem cmpbA_nil (b : List PyData) : cmpbA [] b = true := by cases b <;> simp [cmpbA]
theorem cmpbA_one (a : PyData) (r : List PyData) : cmpbA (a :: r) [] = true := by simp [cmpbA]
theorem eqv_P (a b : List Nat) : PyData.eqv (.str ⟨a.toArray⟩) (.str ⟨b.toArray⟩) = decide (a = b) := by
  have := toP_eqv (.str a) (.str b) rfl rfl
  simp only [D.toP] at this
  rw [this, eqv_str, beq_dec]
theorem cmpb_C : ∀ a b : C, cmpb a.d.toP b.d.toP = true
  | .pl p, b => by
    cases b <;> simp [C.d, D.toP, D.toPA, cmpb_tup, cmpbA_cons, cmpb_str, cmpbA_nil, cmpbA_one]
  | .is f n, b => by
    cases b with
    | bin o x y => cases o <;> simp [C.d, D.toP, D.toPA, cmpb_tup, cmpbA_cons, cmpb_str, cmpbA_nil, cmpbA_one, eqv_P, bw]
    | _ => simp [C.d, D.toP, D.toPA, cmpb_tup, cmpbA_cons, cmpb_str, cmpbA_nil, cmpbA_one, eqv_P]
  | .least f n, b => by
    cases b with
    | bin o x y => cases o <;> simp [C.d, D.toP, D.toPA, cmpb_tup, cmpbA_cons, cmpb_str, cmpbA_nil, cmpbA_one, eqv_P, bw]
    | _ => simp [C.d, D.toP, D.toPA, cmpb_tup, cmpbA_cons, cmpb_str, cmpb_int, cmpbA_nil, cmpbA_one, eqv_P]
  | .not q, b => by
    cases b with
    | not q' => simp [C.d, D.toP, D.toPA, cmpb_tup, cmpbA_cons, cmpb_str, cmpbA_nil, cmpbA_one, eqv_P, cmpb_C q q']
    | bin o x y => cases o <;> simp [C.d, D.toP, D.toPA, cmpb_tup, cmpbA_cons, cmpb_str, cmpbA_nil, cmpbA_one, eqv_P, bw]
    | _ => simp [C.d, D.toP, D.toPA, cmpb_tup, cmpbA_cons, cmpb_str, cmpb_int, cmpbA_nil, cmpbA_one, eqv_P]
  | .bin o x y, b => by
    cases b with
    | bin o' x' y' => cases o <;> cases o' <;> simp [C.d, D.toP, D.toPA, cmpb_tup, cmpbA_cons, cmpb_str, cmpbA_nil, cmpbA_one, eqv_P, bw, cmpb_C x x', cmpb_C y y']
    | _ => cases o <;> simp [C.d, D.toP, D.toPA, cmpb_tup, cmpbA_cons, cmpb_str, cmpb_int, cmpbA_nil, cmpbA_one, eqv_P, bw]
  | .some r q, b => by
    cases b with
    | some r' q' => simp [C.d, D.toP, D.toPA, cmpb_tup, cmpbA_cons, cmpb_str, cmpbA_nil, cmpbA_one, eqv_P, cmpb_C q q']
    | bin o x y => cases o <;> simp [C.d, D.toP, D.toPA, cmpb_tup, cmpbA_cons, cmpb_str, cmpbA_nil, cmpbA_one, eqv_P, bw]
    | _ => simp [C.d, D.toP, D.toPA, cmpb_tup, cmpbA_cons, cmpb_str, cmpb_int, cmpbA_nil, cmpbA_one, eqv_P]
/-- the order of sorted -/
def leC (a b : C) : Bool := PySem.W.dataLe false D.toP a.d b.d
theorem leC_eq (a b : C) : leC a b = !dataLt b.d.toP a.d.toP := rfl
theorem leC_trans (a b c : C) (h1 : leC a b = true) (h2 : leC b c = true) : leC a c = true := by
  rw [leC_eq, Bool.not_eq_true'] at *
  rw [Bool.eq_false_iff]
  intro h
  rcases lex_negTrans _ (keyToks b.d.toP) _ h with q | q
  · have : dataLt c.d.toP b.d.toP = true := q
    rw [h2] at this; cases this
  · have : dataLt b.d.toP a.d.toP = true := q
    rw [h1] at this; cases this
theorem leC_total (a b : C) : (leC a b || leC b a) = true := by
  rw [leC_eq, leC_eq]
  cases h1 : dataLt b.d.toP a.d.toP with
  | false => rfl
  | true =>
    cases h2 : dataLt a.d.toP b.d.toP with
    | false => rfl
    | true =>
      have := PyProof.Rows.lex_trans _ _ _ h1 h2
      rw [lex_irrefl] at this
      cases this
theorem leC_anti (a b : C) (h1 : leC a b = true) (h2 : leC b a = true) : a = b := by
  rw [leC_eq, Bool.not_eq_true'] at *
  have e : keyToks a.d.toP = keyToks b.d.toP := lex_total _ _ h2 h1
  have q : D.eqv a.d b.d = true := by
    rw [← toP_eqv _ _ a.plain b.plain]
    cases z : PyData.eqv a.d.toP b.d.toP with
    | true => rfl
    | false =>
      have := ne_toks a.d.toP b.d.toP (cmpb_C a b) z [] [.inl 0]
      rw [e, List.append_nil, lex_irrefl] at this
      have w := PySem.W.lex_pre (keyToks b.d.toP) [] [.inl 0]
      rw [List.append_nil] at w
      rw [w] at this
      exact absurd this (by decide)
  rw [eqv_C] at q
  exact of_decide_eq_true q
def sortC (cs : List C) : List C := cs.mergeSort leC
theorem sortD_C (cs : List C) : sortD (cs.map C.d) = (sortC cs).map C.d := by
  unfold sortD sortC
  rw [List.map_mergeSort]
  intro a _ b _
  rfl
theorem plain_Cs : ∀ cs : List C, D.plainA (cs.map C.d) = true
  | [] => rfl
  | c :: cs => by simp [D.plainA, c.plain, plain_Cs cs]
theorem dep_Cs : ∀ {cs : List C} {k : Nat}, (∀ c ∈ cs, c.ht ≤ k) → D.depA (cs.map C.d) ≤ k + 1
  | [], k, _ => by simp [D.depA]
  | c :: cs, k, h => by
    have := h c List.mem_cons_self
    have := dep_Cs (cs := cs) (k := k) fun d hd => h d (List.mem_cons_of_mem _ hd)
    simp [D.depA, c.dep]
    omega
theorem C.shape (c : C) : ∃ w r, c.d = .tup (.str w :: r) := by cases c <;> exact ⟨_, _, rfl⟩
theorem sortOk_C {cs : List C} (h : ∀ c ∈ cs, c.ht ≤ 390) : sortOk (cs.map C.d) := by
  refine ⟨⟨plain_Cs cs, by have := dep_Cs h; omega⟩, .inr ⟨?_, ?_⟩⟩
  · intro x hx y hy
    obtain ⟨a, _, rfl⟩ := List.mem_map.mp hx
    obtain ⟨b, _, rfl⟩ := List.mem_map.mp hy
    exact cmpb_C a b
  · intro x hx
    obtain ⟨a, _, rfl⟩ := List.mem_map.mp hx
    exact a.shape
theorem gSorted_C {m : Bool} {d : D} {h : Hd} {cs : List C} (e : seqOf h d = some (cs.map C.d)) (hh : ∀ c ∈ cs, c.ht ≤ 390) : gSorted m [d] h = fresh m ((sortC cs).map C.d) h := by
  unfold gSorted
  simp only [e]
  rw [if_pos (sortOk_C hh), sortD_C]
/-! ### without repeats -/
def keep (k : List C) (x : C) : List C := if k.getLast? = some x then k else k ++ [x]
def add (k : List C) (x : C) : List C := if x ∈ k then k else k ++ [x]
def Str_ (l : List C) : Prop := l.Pairwise fun a b => leC a b = true ∧ a ≠ b
theorem strict_eq {xs ys : List C} (hx : Str_ xs) (hy : Str_ ys) (h : ∀ c, c ∈ xs ↔ c ∈ ys) : xs = ys := by
  refine List.Perm.eq_of_pairwise (le := fun a b => leC a b = true) (fun a b _ _ h1 h2 => leC_anti a b h1 h2) (hx.imp And.left) (hy.imp And.left) ?_
  refine (List.perm_ext_iff_of_nodup ?_ ?_).mpr h
  · exact hx.imp And.right
  · exact hy.imp And.right
theorem foldl_keep : ∀ (xs k : List C), Str_ k → (∀ a ∈ k, ∀ b ∈ xs, leC a b = true) → xs.Pairwise (fun a b => leC a b = true) → Str_ (xs.foldl keep k) ∧ ∀ c, c ∈ xs.foldl keep k ↔ c ∈ k ∨ c ∈ xs
  | [], k, hk, _, _ => ⟨hk, fun c => by simp⟩
  | x :: xs, k, hk, h1, h2 => by
    rw [List.foldl_cons]
    rw [List.pairwise_cons] at h2
    have hkx : ∀ a ∈ k, leC a x = true := fun a ha => h1 a ha x List.mem_cons_self
    by_cases q : k.getLast? = some x
    · have e : keep k x = k := if_pos q
      rw [e]
      obtain ⟨i1, i2⟩ := foldl_keep xs k hk (fun a ha b hb => h1 a ha b (List.mem_cons_of_mem _ hb)) h2.2
      refine ⟨i1, fun c => ?_⟩
      rw [i2, List.mem_cons]
      have hx : x ∈ k := List.mem_of_getLast? q
      constructor
      · rintro (h | h)
        · exact .inl h
        · exact .inr (.inr h)
      · rintro (h | rfl | h)
        · exact .inl h
        · exact .inl hx
        · exact .inr h
    · have e : keep k x = k ++ [x] := if_neg q
      rw [e]
      have hne : ∀ a ∈ k, a ≠ x := by
        rintro a ha rfl
        rcases List.eq_nil_or_concat k with rfl | ⟨k', l, rfl⟩
        · simp at ha
        · rw [List.concat_eq_append, List.getLast?_concat] at q
          have hl : leC l a = true := hkx l (by simp)
          unfold Str_ at hk
          rw [List.concat_eq_append, List.pairwise_append] at hk
          rw [List.concat_eq_append] at ha
          rcases List.mem_append.mp ha with ha | ha
          · have := hk.2.2 a ha l (by simp)
            exact this.2 (leC_anti a l this.1 hl)
          · exact q (by rw [List.mem_singleton.mp ha])
      obtain ⟨i1, i2⟩ := foldl_keep xs (k ++ [x]) (by
        unfold Str_
        rw [List.pairwise_append]
        refine ⟨hk, List.pairwise_singleton _ _, fun a ha b hb => ?_⟩
        rw [List.mem_singleton.mp hb]
        exact ⟨hkx a ha, hne a ha⟩) (fun a ha b hb => by
        rcases List.mem_append.mp ha with ha | ha
        · exact h1 a ha b (List.mem_cons_of_mem _ hb)
        · rw [List.mem_singleton.mp ha]; exact h2.1 b hb) h2.2
      refine ⟨i1, fun c => ?_⟩
      rw [i2, List.mem_append, List.mem_singleton, List.mem_cons, or_assoc]
theorem foldl_add : ∀ (xs k : List C), k.Nodup → (xs.foldl add k).Nodup ∧ ∀ c, c ∈ xs.foldl add k ↔ c ∈ k ∨ c ∈ xs
  | [], k, hk => ⟨hk, fun c => by simp⟩
  | x :: xs, k, hk => by
    rw [List.foldl_cons]
    by_cases q : x ∈ k
    · have e : add k x = k := if_pos q
      rw [e]
      obtain ⟨i1, i2⟩ := foldl_add xs k hk
      refine ⟨i1, fun c => ?_⟩
      rw [i2, List.mem_cons]
      constructor
      · rintro (h | h)
        · exact .inl h
        · exact .inr (.inr h)
      · rintro (h | rfl | h)
        · exact .inl h
        · exact .inl q
        · exact .inr h
    · have e : add k x = k ++ [x] := if_neg q
      rw [e]
      obtain ⟨i1, i2⟩ := foldl_add xs (k ++ [x]) (List.nodup_append.mpr ⟨hk, by simp, fun a ha b hb => by
        rw [List.mem_singleton.mp hb]; rintro rfl; exact q ha⟩)
      refine ⟨i1, fun c => ?_⟩
      rw [i2, List.mem_append, List.mem_singleton, List.mem_cons, or_assoc]
theorem sortC_sorted (xs : List C) : (sortC xs).Pairwise fun a b => leC a b = true := List.pairwise_mergeSort leC_trans leC_total xs
theorem sortC_mem {xs : List C} {c : C} : c ∈ sortC xs ↔ c ∈ xs := List.mem_mergeSort
/-- both ways of taking repeats out -/
theorem both_ways (xs : List C) : (sortC xs).foldl keep [] = sortC (xs.foldl add []) := by
  obtain ⟨a1, a2⟩ := foldl_keep (sortC xs) [] List.Pairwise.nil (by simp) (sortC_sorted xs)
  obtain ⟨b1, b2⟩ := foldl_add xs [] List.nodup_nil
  refine strict_eq a1 ?_ fun c => ?_
  · have h1 := sortC_sorted (xs.foldl add [])
    have h2 : (sortC (xs.foldl add [])).Nodup := (List.mergeSort_perm _ _).nodup_iff.mpr b1
    exact (List.pairwise_and_iff.mpr ⟨h1, h2⟩)
  · rw [a2, sortC_mem, sortC_mem, b2]
end K24

namespace K24
open PySem L2 Ev
def C.tests : C → List C
  | .pl .all => []
  | .pl .none => []
  | .not q => q.tests
  | .bin _ a b => b.tests ++ a.tests
  | c => [c]
/-- nodes, not within a part some -/
def C.nd : C → Nat
  | .not q => q.nd + 1
  | .bin _ a b => a.nd + b.nd + 1
  | _ => 1
theorem C.nd_pos : ∀ c : C, 1 ≤ c.nd
  | .pl _ | .is _ _ | .least _ _ | .some _ _ => by simp [C.nd]
  | .not _ | .bin _ _ _ => by simp [C.nd]
def ndA (ws : List C) : Nat := (ws.map C.nd).sum
theorem ndA_app (xs ys : List C) : ndA (xs ++ ys) = ndA xs + ndA ys := by simp [ndA]
theorem ndA_one (x : C) : ndA [x] = x.nd := by simp [ndA]
theorem ndA_len : ∀ ws : List C, ws.length ≤ ndA ws
  | [] => by simp
  | w :: ws => by
    have := ndA_len ws
    have := w.nd_pos
    simp [ndA] at *
    omega
/-- what a waiting list still gives -/
def rest (ws : List C) : List C := ws.reverse.flatMap C.tests
theorem rest_app (ws : List C) (c : C) : rest (ws ++ [c]) = c.tests ++ rest ws := by simp [rest]
def Inv1 (c : C) (L : Nat) (b : Hd) (n : Nat) (t : Tau) (h : Hd) : Prop := ∃ (acc ws : List C) (x3 : Option D), t = [some c.d, some (.ref L), some (.ref (L + 1)), x3] ∧ h = b ++ [.lst (acc.map C.d), .lst (ws.map C.d)] ∧ acc ++ rest ws = c.tests ∧ n = ndA ws ∧ acc.length + ndA ws ≤ c.nd
noncomputable abbrev tlBody : MS := (sSeq (sSet 3 (mMt kPop (mVar 2) aNil))
  (sIf (tCmp (mOp (dIn false) (mOp dIx (mVar 3) (mC (.int 0))) (mTup (aCons (mC (.str [110, 111, 116])) (aCons (mC (.str [97, 110, 100])) (aCons (mC (.str [111, 114])) aNil))))))
  (sExpr (mMt kExtend (mVar 2) (aCons (mB (gList false) (aCons (mCut false (mVar 3) (pYes (mC (.int 1))) pNo) aNil)) aNil)))
  (sIf (tCmp (mOp (dIn true) (mOp dIx (mVar 3) (mC (.int 0))) (mTup (aCons (mC (.str [97, 108, 108])) (aCons (mC (.str [110, 111, 110, 101])) aNil)))))
  (sExpr (mMt kAppend (mVar 1) (aCons (mVar 3) aNil)))
  sNil)))
theorem get1 (b : Hd) (x y : O) : (b ++ [x, y])[b.length]? = some x := by simp
theorem get2 (b : Hd) (x y : O) : (b ++ [x, y])[b.length + 1]? = some y := by simp
theorem set1 (b : Hd) (x y z : O) : (b ++ [x, y]).set b.length z = b ++ [z, y] := by
  rw [List.set_append_right _ _ (Nat.le_refl _)]; simp
theorem set2 (b : Hd) (x y z : O) : (b ++ [x, y]).set (b.length + 1) z = b ++ [x, z] := by
  rw [List.set_append_right _ _ (by omega)]; simp
theorem map_snoc (ws : List C) (c : C) : (ws ++ [c]).map C.d = ws.map C.d ++ [c.d] := by simp
theorem cut1 {xs : List D} (x : D) (h : Hd) : dCut false (.tup (x :: xs)) (some 1) none h = .ok (.tup xs) h := by
  show Res.ok (D.tup (cutL (x :: xs) (some 1) none)) h = _
  have e : cutL (x :: xs) (some 1) none = xs := by
    unfold cutL
    rw [show cutI (x :: xs).length (x :: xs).length none = (x :: xs).length from rfl]
    have e2 : cutI (x :: xs).length 0 (some 1) = 1 := by simp [cutI]
    rw [e2]
    simp
  rw [e]
theorem tl_step {c : C} {b : Hd} {n : Nat} {t : Tau} {h : Hd} {cl : Calls} (hb : c.nd ≤ 1000000) (i : Inv1 c b.length b n t h) :
    (tVal (mVar 2) cl t h = .ok false h ∧ (∃ x3, t = [some c.d, some (.ref b.length), some (.ref (b.length + 1)), x3] ∧ h = b ++ [.lst (c.tests.map C.d), .lst []])) ∨
    (tVal (mVar 2) cl t h = .ok true h ∧ Turn (fun t' h' => ∃ m, m < n ∧ Inv1 c b.length b m t' h') (fun _ => False) (tlBody cl t h)) := by
  obtain ⟨acc, ws, x3, rfl, rfl, hr, rfl, hz⟩ := i
  rcases List.eq_nil_or_concat ws with rfl | ⟨ws, w, rfl⟩
  · refine .inl ⟨?_, x3, rfl, ?_⟩
    · simp [dTrue, D.see]
    · simp [rest] at hr
      rw [hr]
      rfl
  · rw [List.concat_eq_append] at *
    rw [map_snoc]
    rw [rest_app] at hr
    rw [ndA_app, ndA_one] at *
    refine .inr ⟨?_, ?_⟩
    · simp [dTrue, D.see]
    · have p := pop_at (c := cl) (t := [some c.d, some (.ref b.length), some (.ref (b.length + 1)), x3]) (i := 2) (L := b.length + 1) (ys := ws.map C.d) (y := w.d) rfl (get2 b (.lst (acc.map C.d)) _)
      rw [set2] at p
      have s1 : sSet 3 (mMt kPop (mVar 2) aNil) cl [some c.d, some (.ref b.length), some (.ref (b.length + 1)), x3] (b ++ [.lst (acc.map C.d), .lst (ws.map C.d ++ [w.d])]) = .nx [some c.d, some (.ref b.length), some (.ref (b.length + 1)), some w.d] (b ++ [.lst (acc.map C.d), .lst (ws.map C.d)]) := by
        rw [sSet_ev, p, toS_ok]; rfl
      have hl := ndA_len ws
      unfold tlBody
      rw [sSeq_ev, s1, seq_nx]
      have ext : ∀ ds : List C, ds.length ≤ 2 → ∀ cut : M, cut cl [some c.d, some (.ref b.length), some (.ref (b.length + 1)), some w.d] (b ++ [.lst (acc.map C.d), .lst (ws.map C.d)]) = .ok (.lst (ds.map C.d)) (b ++ [.lst (acc.map C.d), .lst (ws.map C.d)]) →
          sExpr (mMt kExtend (mVar 2) (aCons cut aNil)) cl [some c.d, some (.ref b.length), some (.ref (b.length + 1)), some w.d] (b ++ [.lst (acc.map C.d), .lst (ws.map C.d)]) = .nx [some c.d, some (.ref b.length), some (.ref (b.length + 1)), some w.d] (b ++ [.lst (acc.map C.d), .lst ((ws ++ ds).map C.d)]) := by
        intro ds hd cut ec
        have hz1 : ws.length + ds.length ≤ sizeLine := by rw [sizeLine_eq]; omega
        simp [kindOf, kExtend, fExtend, ec, D.open?, D.items?, hz1, D.see]
      have skip : w.tests = [] → w.nd = 1 → (∀ X Y : MS, sIf (tCmp (mOp (dIn false) (mOp dIx (mVar 3) (mC (.int 0))) (mTup (aCons (mC (.str [110, 111, 116])) (aCons (mC (.str [97, 110, 100])) (aCons (mC (.str [111, 114])) aNil)))))) X (sIf (tCmp (mOp (dIn true) (mOp dIx (mVar 3) (mC (.int 0))) (mTup (aCons (mC (.str [97, 108, 108])) (aCons (mC (.str [110, 111, 110, 101])) aNil))))) Y sNil) cl [some c.d, some (.ref b.length), some (.ref (b.length + 1)), some w.d] (b ++ [.lst (acc.map C.d), .lst (ws.map C.d)]) = .nx [some c.d, some (.ref b.length), some (.ref (b.length + 1)), some w.d] (b ++ [.lst (acc.map C.d), .lst (ws.map C.d)])) →
          Turn (fun t' h' => ∃ m, m < ndA ws + w.nd ∧ Inv1 c b.length b m t' h') (fun _ => False) (sIf (tCmp (mOp (dIn false) (mOp dIx (mVar 3) (mC (.int 0))) (mTup (aCons (mC (.str [110, 111, 116])) (aCons (mC (.str [97, 110, 100])) (aCons (mC (.str [111, 114])) aNil)))))) (sExpr (mMt kExtend (mVar 2) (aCons (mB (gList false) (aCons (mCut false (mVar 3) (pYes (mC (.int 1))) pNo) aNil)) aNil))) (sIf (tCmp (mOp (dIn true) (mOp dIx (mVar 3) (mC (.int 0))) (mTup (aCons (mC (.str [97, 108, 108])) (aCons (mC (.str [110, 111, 110, 101])) aNil))))) (sExpr (mMt kAppend (mVar 1) (aCons (mVar 3) aNil))) sNil) cl [some c.d, some (.ref b.length), some (.ref (b.length + 1)), some w.d] (b ++ [.lst (acc.map C.d), .lst (ws.map C.d)])) := by
        intro e1 e2 e3
        rw [e3]
        exact .nx ⟨ndA ws, by omega, acc, ws, _, rfl, rfl, by rw [← hr, e1]; rfl, rfl, by omega⟩
      have appd : w.tests = [w] → w.nd = 1 → (∀ X Y : MS, sIf (tCmp (mOp (dIn false) (mOp dIx (mVar 3) (mC (.int 0))) (mTup (aCons (mC (.str [110, 111, 116])) (aCons (mC (.str [97, 110, 100])) (aCons (mC (.str [111, 114])) aNil)))))) X (sIf (tCmp (mOp (dIn true) (mOp dIx (mVar 3) (mC (.int 0))) (mTup (aCons (mC (.str [97, 108, 108])) (aCons (mC (.str [110, 111, 110, 101])) aNil))))) Y sNil) cl [some c.d, some (.ref b.length), some (.ref (b.length + 1)), some w.d] (b ++ [.lst (acc.map C.d), .lst (ws.map C.d)]) = Y cl [some c.d, some (.ref b.length), some (.ref (b.length + 1)), some w.d] (b ++ [.lst (acc.map C.d), .lst (ws.map C.d)])) →
          Turn (fun t' h' => ∃ m, m < ndA ws + w.nd ∧ Inv1 c b.length b m t' h') (fun _ => False) (sIf (tCmp (mOp (dIn false) (mOp dIx (mVar 3) (mC (.int 0))) (mTup (aCons (mC (.str [110, 111, 116])) (aCons (mC (.str [97, 110, 100])) (aCons (mC (.str [111, 114])) aNil)))))) (sExpr (mMt kExtend (mVar 2) (aCons (mB (gList false) (aCons (mCut false (mVar 3) (pYes (mC (.int 1))) pNo) aNil)) aNil))) (sIf (tCmp (mOp (dIn true) (mOp dIx (mVar 3) (mC (.int 0))) (mTup (aCons (mC (.str [97, 108, 108])) (aCons (mC (.str [110, 111, 110, 101])) aNil))))) (sExpr (mMt kAppend (mVar 1) (aCons (mVar 3) aNil))) sNil) cl [some c.d, some (.ref b.length), some (.ref (b.length + 1)), some w.d] (b ++ [.lst (acc.map C.d), .lst (ws.map C.d)])) := by
        intro e1 e2 e3
        rw [e3]
        have := append_at (c := cl) (t := [some c.d, some (.ref b.length), some (.ref (b.length + 1)), some w.d]) (h := b ++ [.lst (acc.map C.d), .lst (ws.map C.d)]) (i := 1) (L := b.length) (m := mVar 3) (d := w.d) rfl (get1 b _ _) rfl (get1 b _ _) (by rw [List.length_map]; omega)
        rw [this, set1, ← map_snoc]
        exact .nx ⟨ndA ws, by omega, acc ++ [w], ws, _, rfl, rfl, by rw [← hr, e1]; simp, rfl, by rw [List.length_append]; simp only [List.length_singleton]; omega⟩
      cases w with
      | not q =>
        have := ext [q] (by simp) (mB (gList false) (aCons (mCut false (mVar 3) (pYes (mC (.int 1))) pNo) aNil)) (by simp [C.d, cut1, gList, seqOf, D.see])
        have e : ∀ X : MS, ∀ Y : MS, sIf (tCmp (mOp (dIn false) (mOp dIx (mVar 3) (mC (.int 0))) (mTup (aCons (mC (.str [110, 111, 116])) (aCons (mC (.str [97, 110, 100])) (aCons (mC (.str [111, 114])) aNil)))))) X Y cl [some c.d, some (.ref b.length), some (.ref (b.length + 1)), some (C.not q).d] (b ++ [.lst (acc.map C.d), .lst (ws.map C.d)]) = X cl [some c.d, some (.ref b.length), some (.ref (b.length + 1)), some (C.not q).d] (b ++ [.lst (acc.map C.d), .lst (ws.map C.d)]) := by
          intro X Y
          simp [C.d, ix0, in_w3]
        rw [e, this]
        refine .nx ⟨_, ?_, acc, ws ++ [q], _, rfl, rfl, by rw [rest_app, ← hr]; simp [C.tests], rfl, by rw [ndA_app, ndA_one]; simp only [C.nd] at hz; omega⟩
        rw [ndA_app, ndA_one]; simp only [C.nd]; omega
      | bin o x y =>
        have := ext [x, y] (by simp) (mB (gList false) (aCons (mCut false (mVar 3) (pYes (mC (.int 1))) pNo) aNil)) (by simp [C.d, cut1, gList, seqOf, D.see])
        have e : ∀ X : MS, ∀ Y : MS, sIf (tCmp (mOp (dIn false) (mOp dIx (mVar 3) (mC (.int 0))) (mTup (aCons (mC (.str [110, 111, 116])) (aCons (mC (.str [97, 110, 100])) (aCons (mC (.str [111, 114])) aNil)))))) X Y cl [some c.d, some (.ref b.length), some (.ref (b.length + 1)), some (C.bin o x y).d] (b ++ [.lst (acc.map C.d), .lst (ws.map C.d)]) = X cl [some c.d, some (.ref b.length), some (.ref (b.length + 1)), some (C.bin o x y).d] (b ++ [.lst (acc.map C.d), .lst (ws.map C.d)]) := by
          intro X Y
          cases o <;> simp [C.d, bw, ix0, in_w3]
        rw [e, this]
        refine .nx ⟨_, ?_, acc, ws ++ [x, y], _, rfl, rfl, by rw [show ws ++ [x, y] = (ws ++ [x]) ++ [y] by simp, rest_app, rest_app, ← hr]; simp [C.tests], rfl, ?_⟩
        · rw [ndA_app]; simp [ndA, C.nd]
        · rw [ndA_app]; simp [ndA, C.nd] at *; omega
      | pl pp =>
        cases pp with
        | all => exact skip rfl rfl (by intro X Y; simp [C.d, Pl.w, ix0, in_w3, nin_w2])
        | none => exact skip rfl rfl (by intro X Y; simp [C.d, Pl.w, ix0, in_w3, nin_w2])
        | closed => exact appd rfl rfl (by intro X Y; simp [C.d, Pl.w, ix0, in_w3, nin_w2])
        | owned => exact appd rfl rfl (by intro X Y; simp [C.d, Pl.w, ix0, in_w3, nin_w2])
      | is f n => exact appd rfl rfl (by intro X Y; simp [C.d, ix0, in_w3, nin_w2])
      | least f n => exact appd rfl rfl (by intro X Y; simp [C.d, ix0, in_w3, nin_w2])
      | some r q => exact appd rfl rfl (by intro X Y; simp [C.d, ix0, in_w3, nin_w2])
theorem c_testlist {n : Nat} {c : C} {h : Hd} (hn : 1 ≤ n) (hb : c.nd ≤ 1000000) : callN T n 4 [c.d] h = .ok (.ref h.length) (h ++ [.lst (c.tests.map C.d), .lst []]) := by
  obtain ⟨m, rfl⟩ := lvl hn
  rw [call_at (F := ⟨1, 4, b_test_list⟩) rfl]
  generalize callN T m = cl
  have ea : ([c.d].map some ++ List.replicate (4 - 1) (none : Option D)) = [some c.d, none, none, none] := rfl
  rw [runFn_at (np := 1) (nn := 4) rfl ea]
  have hbd : b_test_list = sSeq (sSet 1 (mLst true aNil)) (sSeq (sSet 2 (mLst true (aCons (mVar 0) aNil))) (sSeq (sWhile (tVal (mVar 2)) tlBody) (sRet (mVar 1)))) := rfl
  have s1 : sSet 1 (mLst true aNil) cl [some c.d, none, none, none] h = .nx [some c.d, some (.ref h.length), none, none] (h ++ [.lst []]) := by simp
  have s2 : sSet 2 (mLst true (aCons (mVar 0) aNil)) cl [some c.d, some (.ref h.length), none, none] (h ++ [.lst []]) = .nx [some c.d, some (.ref h.length), some (.ref (h.length + 1)), none] (h ++ [.lst [], .lst [c.d]]) := by simp
  have w := sWhile_gen (k := tVal (mVar 2)) (b := tlBody) (c := cl) (t := [some c.d, some (.ref h.length), some (.ref (h.length + 1)), none]) (h := h ++ [.lst [], .lst [c.d]]) (I := Inv1 c h.length h) (O := fun x => ∃ t', x = .nx t' (h ++ [.lst (c.tests.map C.d), .lst []]) ∧ t'[1]? = some (some (.ref h.length)))
    (fun n t g i => by
      rcases tl_step (cl := cl) hb i with ⟨e, x3, rfl, rfl⟩ | ⟨e, q⟩
      · exact .inl ⟨e, _, rfl, rfl⟩
      · refine .inr ⟨e, ?_⟩
        generalize tlBody cl t g = x at q
        cases q with
        | nx q => exact .nx q
        | ct q => exact .ct q
        | bk q => exact q.elim
        | rt q => exact q.elim
        | exn q => exact q.elim) c.nd (by omega) ⟨[], [c], none, rfl, rfl, by simp [rest], by simp [ndA], by simp [ndA]⟩
  obtain ⟨t', e, et⟩ := w
  rw [hbd, sSeq_ev, s1, seq_nx, sSeq_ev, s2, seq_nx, sSeq_ev, e, seq_nx]
  simp only [sRet_ev, mVar_ev, et, toS_ok, fin_rt]
  unfold fin1
  rw [if_neg (fun z => by have := z.1; rw [lo_ref] at this; omega)]
end K24

namespace K24
open PySem L2 Ev
theorem C.see (c : C) (h : Hd) : D.see h c.d = c.d := by cases c <;> rfl
theorem neq_C {a b : C} {h : Hd} (ha : a.ht ≤ 390) : dEq true a.d b.d h = .ok (.bl (!decide (a = b))) h := by
  unfold dEq
  rw [a.see, b.see]
  have : cmpOk a.d b.d = true := by
    unfold cmpOk near
    rw [a.plain, b.plain, a.dep]
    simp
    omega
  rw [if_pos this, eqv_C]
  simp
theorem eq_C {a b : C} {h : Hd} (ha : a.ht ≤ 390) : dEq false a.d b.d h = .ok (.bl (decide (a = b))) h := by
  unfold dEq
  rw [a.see, b.see]
  have : cmpOk a.d b.d = true := by
    unfold cmpOk near
    rw [a.plain, b.plain, a.dep]
    simp
    omega
  rw [if_pos this, eqv_C]
  simp
theorem ix_last {xs : List D} {x : D} {h : Hd} {K : Nat} (e : h[K]? = some (.lst (xs ++ [x]))) : dIx (.ref K) (.int (-1)) h = .ok x h := by
  have e3 : ixI (xs ++ [x]).length (-1) = some xs.length := by
    unfold ixI
    rw [if_neg (by omega), if_pos (by simp; omega)]
    simp
    omega
  simp [dIx, dIxS, D.dict?, D.see, e]
  rw [List.length_append, List.length_singleton] at e3
  rw [e3]
  simp
noncomputable abbrev wrBody : MS := (sIf (tOr (tNot (tVal (mVar 1))) (tCmp (mOp (dEq true) (mOp dIx (mVar 1) (mUn dNeg (mC (.int 1)))) (mVar 2))))
  (sExpr (mMt kAppend (mVar 1) (aCons (mVar 2) aNil)))
  sNil)
theorem wr_step {cl : Calls} {b : Hd} {x0 : Option D} {k : List C} {c : C} (hc : ∀ x ∈ k, x.ht ≤ 390) (hz : k.length ≤ 1000000) : wrBody cl [x0, some (.ref b.length), some c.d] (b ++ [.lst (k.map C.d)]) = .nx [x0, some (.ref b.length), some c.d] (b ++ [.lst ((keep k c).map C.d)]) := by
  have app : sExpr (mMt kAppend (mVar 1) (aCons (mVar 2) aNil)) cl [x0, some (.ref b.length), some c.d] (b ++ [.lst (k.map C.d)]) = .nx [x0, some (.ref b.length), some c.d] (b ++ [.lst ((k ++ [c]).map C.d)]) := by
    have := append_at (c := cl) (t := [x0, some (.ref b.length), some c.d]) (h := b ++ [.lst (k.map C.d)]) (i := 1) (L := b.length) (m := mVar 2) (d := c.d) rfl (get_last b _) rfl (get_last b _) (by rw [List.length_map]; omega)
    rw [this, set_last, map_snoc]
  rcases List.eq_nil_or_concat k with rfl | ⟨k, l, rfl⟩
  · have e : keep [] c = [] ++ [c] := rfl
    rw [e, ← app]
    simp [dTrue, D.see]
  · rw [List.concat_eq_append] at *
    have hl := hc l (by simp)
    have e1 : dIx (.ref b.length) (.int (-1)) (b ++ [.lst ((k ++ [l]).map C.d)]) = .ok l.d (b ++ [.lst ((k ++ [l]).map C.d)]) := ix_last (xs := k.map C.d) (by rw [get_last, map_snoc])
    have e2 := neq_C (a := l) (b := c) (h := b ++ [.lst ((k ++ [l]).map C.d)]) hl
    have e3 : dTrue (.ref b.length) (b ++ [.lst ((k ++ [l]).map C.d)]) = .ok true (b ++ [.lst ((k ++ [l]).map C.d)]) := by simp [dTrue, D.see]
    have e4 : dNeg (.int 1) (b ++ [.lst ((k ++ [l]).map C.d)]) = .ok (.int (-1)) (b ++ [.lst ((k ++ [l]).map C.d)]) := rfl
    have kk : keep (k ++ [l]) c = if l = c then k ++ [l] else (k ++ [l]) ++ [c] := by
      unfold keep
      rw [List.getLast?_concat]
      simp
    rw [kk]
    unfold wrBody
    rw [sIf_ev]
    simp only [tOr_ev, tNot_ev, tVal_ev, mVar_ev, List.getElem?_cons_succ, List.getElem?_cons_zero, bind_ok, e3, tCmp_ev, mOp_ev, mUn_ev, mC_ev, e4, e1, e2]
    simp only [Bool.not_true, Bool.false_eq_true, if_false, bind_ok, dBl_ev, toS_ok]
    by_cases hq : l = c
    · simp [hq]
    · simp only [hq, decide_false, Bool.not_false, if_true, if_false]
      exact app
theorem keep_mem {k : List C} {c x : C} (h : x ∈ keep k c) : x ∈ k ∨ x = c := by
  unfold keep at h
  split at h
  · exact .inl h
  · rcases List.mem_append.mp h with h | h
    · exact .inl h
    · exact .inr (List.mem_singleton.mp h)
theorem keep_len (k : List C) (c : C) : (keep k c).length ≤ k.length + 1 := by
  unfold keep
  split <;> simp
theorem c_wr {n : Nat} {cs : List C} {h : Hd} {L : Nat} (hn : 1 ≤ n) (e : h[L]? = some (.lst (cs.map C.d))) (hh : ∀ c ∈ cs, c.ht ≤ 390) (hz : cs.length ≤ 1000000) : callN T n 5 [.ref L] h = .ok (.tup ((sortC (cs.foldl add [])).map C.d)) h := by
  obtain ⟨m, rfl⟩ := lvl hn
  rw [call_at (F := ⟨1, 3, b_without_repeats⟩) rfl]
  generalize callN T m = cl
  have ea : ([D.ref L].map some ++ List.replicate (3 - 1) (none : Option D)) = [some (.ref L), none, none] := rfl
  rw [runFn_at (np := 1) (nn := 3) rfl ea]
  have hbd : b_without_repeats = sSeq (sSet 1 (mLst true aNil)) (sSeq (sFor (iVal (mB (gSorted false) (aCons (mVar 0) aNil))) (.nm 2) wrBody) (sRet (mB gTuple (aCons (mVar 1) aNil)))) := rfl
  have s1 : sSet 1 (mLst true aNil) cl [some (.ref L), none, none] h = .nx [some (.ref L), some (.ref h.length), none] (h ++ [.lst []]) := by simp
  have hL : L < h.length := (List.getElem?_eq_some_iff.mp e).1
  have e1 : (h ++ [O.lst []])[L]? = some (.lst (cs.map C.d)) := by rw [List.getElem?_append_left hL]; exact e
  have hlen : (sortC cs).length = cs.length := List.length_mergeSort _
  have hi : iVal (mB (gSorted false) (aCons (mVar 0) aNil)) cl [some (.ref L), some (.ref h.length), none] (h ++ [.lst []]) = .ok ⟨(sortC cs).map C.d, none⟩ (h ++ [.lst []]) := by
    have g := gSorted_C (m := false) (d := .ref L) (h := h ++ [.lst []]) (cs := cs) (by unfold seqOf D.see; simp only [e1]) hh
    rw [iVal_ev, mB_ev, aCons_ev, mVar_ev]
    simp only [List.getElem?_cons_zero, bind_ok, aNil_ev]
    rw [g, freshF _ (by rw [List.length_map, hlen]; omega), bind_ok]
    rfl
  obtain ⟨t', ef, et⟩ := sFor_gen (b := wrBody) (g := .nm 2) (I := fun ds t h' => ∃ (k r : List C) (x2 : Option D), ds = r.map C.d ∧ t = [some (.ref L), some (.ref h.length), x2] ∧ h' = h ++ [.lst (k.map C.d)] ∧ r.foldl keep k = (sortC cs).foldl keep [] ∧ k.length + r.length ≤ cs.length ∧ (∀ c ∈ k, c.ht ≤ 390) ∧ ∀ c ∈ r, c.ht ≤ 390)
    (O := fun x => ∃ t', x = .nx t' (h ++ [.lst ((sortC (cs.foldl add [])).map C.d)]) ∧ t'[1]? = some (some (.ref h.length))) hi
    (by
      rintro d ds t h' ⟨k, r, x2, hr, rfl, rfl, hf, hl, hk, hr2⟩
      cases r with
      | nil => simp at hr
      | cons c r =>
        rw [List.map_cons] at hr
        obtain ⟨rfl, rfl⟩ := List.cons.inj hr
        refine ⟨trivial, _, rfl, ?_⟩
        show Turn _ _ (wrBody cl [some (.ref L), some (.ref h.length), some c.d] (h ++ [.lst (k.map C.d)]))
        rw [wr_step hk (by omega)]
        refine .nx ⟨keep k c, r, _, rfl, rfl, rfl, hf, by have := keep_len k c; simp at hl; omega, fun x hx => ?_, fun x hx => hr2 x (List.mem_cons_of_mem _ hx)⟩
        rcases keep_mem hx with q | rfl
        · exact hk x q
        · exact hr2 _ List.mem_cons_self)
    (by
      rintro t h' ⟨k, r, x2, hr, rfl, rfl, hf, hl, hk, hr2⟩
      cases r with
      | cons c r => simp at hr
      | nil =>
        refine ⟨trivial, [some (.ref L), some (.ref h.length), x2], ?_, rfl⟩
        rw [← both_ways, ← hf]
        rfl)
    ⟨[], sortC cs, none, rfl, rfl, rfl, rfl, by rw [hlen]; simp, by simp, fun c hc => hh c (sortC_mem.mp hc)⟩
  rw [hbd, sSeq_ev, s1, seq_nx, sSeq_ev, ef, seq_nx]
  have hz2 : (sortC (cs.foldl add [])).length ≤ 16777216 := by
    have h1 : (sortC (cs.foldl add [])).length = (cs.foldl add []).length := List.length_mergeSort _
    have h2 : ∀ (xs k : List C), (xs.foldl add k).length ≤ k.length + xs.length := by
      intro xs
      induction xs with
      | nil => intro k; simp
      | cons x xs ih =>
        intro k
        rw [List.foldl_cons]
        have := ih (add k x)
        have : (add k x).length ≤ k.length + 1 := by unfold add; split <;> simp
        simp; omega
    have := h2 cs []
    simp at this
    omega
  rw [sRet_ev, mB_ev, aCons_ev, mVar_ev]
  simp only [et, bind_ok, aNil_ev]
  have gt : gTuple [.ref h.length] (h ++ [.lst ((sortC (cs.foldl add [])).map C.d)]) = .ok (.tup ((sortC (cs.foldl add [])).map C.d)) (h ++ [.lst ((sortC (cs.foldl add [])).map C.d)]) := by
    simp [gTuple, seqOf, D.see, hz2]
  rw [gt, toS_ok, fin_rt]
  exact fin1_app (by rw [lo_tup]; exact plainA_lo (plain_Cs _))
theorem tests_ht : ∀ (c : C) (x : C), x ∈ c.tests → x.ht ≤ c.ht
  | .pl .all, x, h => by simp [C.tests] at h
  | .pl .none, x, h => by simp [C.tests] at h
  | .pl .closed, x, h => by simp [C.tests] at h; subst h; simp
  | .pl .owned, x, h => by simp [C.tests] at h; subst h; simp
  | .is f n, x, h => by simp [C.tests] at h; subst h; simp
  | .least f n, x, h => by simp [C.tests] at h; subst h; simp
  | .some r q, x, h => by simp [C.tests] at h; subst h; simp
  | .not q, x, h => by
    have := tests_ht q x (by simpa [C.tests] using h)
    simp [C.ht]; omega
  | .bin o a b, x, h => by
    simp [C.tests] at h
    rcases h with h | h
    · have := tests_ht b x h; simp [C.ht]; omega
    · have := tests_ht a x h; simp [C.ht]; omega
theorem tests_len : ∀ c : C, c.tests.length ≤ c.nd
  | .pl .all | .pl .none | .pl .closed | .pl .owned => by simp [C.tests, C.nd]
  | .is f n => by simp [C.tests, C.nd]
  | .least f n => by simp [C.tests, C.nd]
  | .some r q => by simp [C.tests, C.nd]
  | .not q => by have := tests_len q; simp [C.tests, C.nd]; omega
  | .bin o a b => by have := tests_len a; have := tests_len b; simp [C.tests, C.nd]; omega
def tsC (c : C) : List C := sortC (c.tests.foldl add [])
theorem c_tests {n : Nat} {c : C} {h : Hd} (hn : 2 ≤ n) (hb : c.nd ≤ 1000000) (hh : c.ht ≤ 390) : callN T n 6 [c.d] h = .ok (.tup ((tsC c).map C.d)) h := by
  obtain ⟨m, rfl⟩ := lvl hn
  rw [call_at (F := ⟨1, 1, b_tests_of⟩) rfl]
  have e1 := c_testlist (n := m + 1) (h := h) (by omega) hb
  have e2 := c_wr (n := m + 1) (cs := c.tests) (h := h ++ [.lst (c.tests.map C.d), .lst []]) (L := h.length) (by omega) (get1 h _ _) (fun x hx => Nat.le_trans (tests_ht c x hx) hh) (by have := tests_len c; omega)
  generalize callN T (m + 1) = cl at e1 e2
  have hl : D.loA h.length ((tsC c).map C.d) := plainA_lo (plain_Cs _)
  simp [runFn, b_tests_of, e1, e2, fin1_app, tsC] at *
  exact fin1_app (by rw [lo_tup]; exact hl)
end K24

namespace K24
open PySem L2 Ev
theorem has_C (cs : List C) (c : C) : D.has (cs.map C.d) c.d = decide (c ∈ cs) := by
  unfold D.has
  induction cs with
  | nil => simp
  | cons a cs ih =>
    rw [List.map_cons, List.any_cons, ih, eqv_C]
    by_cases h : a = c
    · simp [h]
    · have : ¬ c = a := fun z => h z.symm
      simp [h, this]
theorem C.dict (c : C) (h : Hd) : D.dict? h c.d = none := by cases c <;> rfl
theorem cmpOk_in {c : C} (hc : c.ht ≤ 390) (ds : List D) (hp : D.plainA ds = true) : cmpOk c.d (.lst ds) = true ∧ cmpOk c.d (.tup ds) = true := by
  constructor <;>
  · unfold cmpOk near
    simp only [c.plain, D.plain, hp, c.dep, Bool.true_and, Bool.or_eq_true, decide_eq_true_eq]
    exact .inl (by omega)
theorem nin_ref {n : Bool} {cs : List C} {c : C} {h : Hd} {K : Nat} (e : h[K]? = some (.lst (cs.map C.d))) (hc : c.ht ≤ 390) : dIn n c.d (.ref K) h = .ok (.bl (n != decide (c ∈ cs))) h := by
  have e1 : D.dict? h (.ref K) = none := by simp [D.dict?, e]
  have e2 : D.see h (.ref K) = .lst (cs.map C.d) := by simp [D.see, e]
  unfold dIn
  simp only [e1]
  unfold dInS
  simp only [e2]
  rw [if_pos (cmpOk_in hc _ (plain_Cs cs)).1, has_C]
theorem in_tup {n : Bool} {cs : List C} {c : C} {h : Hd} (hc : c.ht ≤ 390) : dIn n c.d (.tup (cs.map C.d)) h = .ok (.bl (n != decide (c ∈ cs))) h := by
  unfold dIn
  simp only [D.dict?]
  unfold dInS
  simp only [D.see]
  rw [if_pos (cmpOk_in hc _ (plain_Cs cs)).2, has_C]
noncomputable abbrev ltBody : MS := (sSeq (sIf (tCmp (mOp (dEq false) (mB gLen (aCons (mVar 1) aNil)) (mC (.int 0))))
  sBreak
  sNil)
  (sSeq (sSet 4 (mMt kPop (mVar 1) aNil))
  (sIf (tCmp (mOp (dIn false) (mOp dIx (mVar 4) (mC (.int 0))) (mTup (aCons (mC (.str [97, 110, 100])) (aCons (mC (.str [111, 114])) aNil)))))
  (sSeq (sExpr (mMt kAppend (mVar 1) (aCons (mOp dIx (mVar 4) (mC (.int 1))) aNil)))
  (sExpr (mMt kAppend (mVar 1) (aCons (mOp dIx (mVar 4) (mC (.int 2))) aNil))))
  (sIf (tCmp (mOp (dEq false) (mOp dIx (mVar 4) (mC (.int 0))) (mC (.str [110, 111, 116]))))
  (sExpr (mMt kAppend (mVar 1) (aCons (mOp dIx (mVar 4) (mC (.int 1))) aNil)))
  (sIf (tAnd (tCmp (mOp (dIn true) (mOp dIx (mVar 4) (mC (.int 0))) (mTup (aCons (mC (.str [97, 108, 108])) (aCons (mC (.str [110, 111, 110, 101])) aNil))))) (tCmp (mOp (dIn true) (mVar 4) (mVar 2))))
  (sExpr (mMt kAppend (mVar 2) (aCons (mVar 4) aNil)))
  sNil)))))
theorem len_ref {xs : List D} {h : Hd} {K : Nat} (e : h[K]? = some (.lst xs)) : gLen [.ref K] h = .ok (.int (xs.length : Nat)) h := by simp [gLen, D.dict?, D.see, e]
theorem eq_int {i j : Int} (h : Hd) : dEq false (.int i) (.int j) h = .ok (.bl (decide (i = j))) h := by
  simp [dEq, cmpOk, D.plain, near, D.dep, D.see, beq_decI]
/-- the test that ends the loop -/
theorem end_test {cl : Calls} {t : Tau} {h : Hd} {i K : Nat} {xs : List D} (ti : t[i]? = some (some (.ref K))) (e : h[K]? = some (.lst xs)) : tCmp (mOp (dEq false) (mB gLen (aCons (mVar i) aNil)) (mC (.int 0))) cl t h = .ok (decide (xs = [])) h := by
  rw [tCmp_ev, mOp_ev, mB_ev, aCons_ev, mVar_ev]
  simp only [ti, bind_ok, aNil_ev, len_ref e, mC_ev, eq_int, dBl_ev]
  congr 1
  cases xs <;> simp <;> omega
def adds (w : C) (acc : List C) : List C := w.tests.foldl add acc
theorem lt_step {cl : Calls} {b : Hd} {x0 x3 x4 : Option D} {acc ws : List C} {w : C} (hz : ndA (ws ++ [w]) + acc.length ≤ 1000000) (hh : w.ht ≤ 390) :
    ∃ (acc' ws' : List C), ltBody cl [x0, some (.ref b.length), some (.ref (b.length + 1)), x3, x4] (b ++ [.lst ((ws ++ [w]).map C.d), .lst (acc.map C.d)]) = .nx [x0, some (.ref b.length), some (.ref (b.length + 1)), x3, some w.d] (b ++ [.lst (ws'.map C.d), .lst (acc'.map C.d)]) ∧
      (rest ws').foldl add acc' = (rest (ws ++ [w])).foldl add acc ∧ ndA ws' + 1 ≤ ndA (ws ++ [w]) ∧ ndA ws' + acc'.length ≤ ndA (ws ++ [w]) + acc.length ∧ (∀ x ∈ ws', x ∈ ws ∨ x.ht ≤ w.ht) ∧ (∀ x ∈ acc', x ∈ acc ∨ x.ht ≤ w.ht) := by
  have hl := ndA_len ws
  rw [ndA_app, ndA_one] at *
  have hT := end_test (cl := cl) (t := [x0, some (.ref b.length), some (.ref (b.length + 1)), x3, x4]) (h := b ++ [.lst ((ws ++ [w]).map C.d), .lst (acc.map C.d)]) (i := 1) (K := b.length) rfl (get1 b _ _)
  have p := pop_at (c := cl) (t := [x0, some (.ref b.length), some (.ref (b.length + 1)), x3, x4]) (i := 1) (L := b.length) (ys := ws.map C.d) (y := w.d) rfl (get1 b _ (.lst (acc.map C.d)))
  rw [set1] at p
  have s1 : sSet 4 (mMt kPop (mVar 1) aNil) cl [x0, some (.ref b.length), some (.ref (b.length + 1)), x3, x4] (b ++ [.lst ((ws ++ [w]).map C.d), .lst (acc.map C.d)]) = .nx [x0, some (.ref b.length), some (.ref (b.length + 1)), x3, some w.d] (b ++ [.lst (ws.map C.d), .lst (acc.map C.d)]) := by
    rw [map_snoc, sSet_ev, p, toS_ok]; rfl
  have hne : decide ((ws ++ [w]).map C.d = []) = false := by simp
  rw [hne] at hT
  have app1 : ∀ (us : List C) (m : M) (q : C), us.length ≤ 1000000 → (∀ h, m cl [x0, some (.ref b.length), some (.ref (b.length + 1)), x3, some w.d] h = .ok q.d h) → sExpr (mMt kAppend (mVar 1) (aCons m aNil)) cl [x0, some (.ref b.length), some (.ref (b.length + 1)), x3, some w.d] (b ++ [.lst (us.map C.d), .lst (acc.map C.d)]) = .nx [x0, some (.ref b.length), some (.ref (b.length + 1)), x3, some w.d] (b ++ [.lst ((us ++ [q]).map C.d), .lst (acc.map C.d)]) := by
    intro us m q hu em
    have := append_at (c := cl) (t := [x0, some (.ref b.length), some (.ref (b.length + 1)), x3, some w.d]) (h := b ++ [.lst (us.map C.d), .lst (acc.map C.d)]) (i := 1) (L := b.length) (m := m) (d := q.d) rfl (get1 b _ _) (em _) (get1 b _ _) (by rw [List.length_map]; omega)
    rw [this, set1, map_snoc]
  have app2 : sExpr (mMt kAppend (mVar 2) (aCons (mVar 4) aNil)) cl [x0, some (.ref b.length), some (.ref (b.length + 1)), x3, some w.d] (b ++ [.lst (ws.map C.d), .lst (acc.map C.d)]) = .nx [x0, some (.ref b.length), some (.ref (b.length + 1)), x3, some w.d] (b ++ [.lst (ws.map C.d), .lst ((acc ++ [w]).map C.d)]) := by
    have := append_at (c := cl) (t := [x0, some (.ref b.length), some (.ref (b.length + 1)), x3, some w.d]) (h := b ++ [.lst (ws.map C.d), .lst (acc.map C.d)]) (i := 2) (L := b.length + 1) (m := mVar 4) (d := w.d) rfl (get2 b _ _) rfl (get2 b _ _) (by rw [List.length_map]; omega)
    rw [this, set2, map_snoc]
  have hin := nin_ref (n := true) (cs := acc) (c := w) (h := b ++ [.lst (ws.map C.d), .lst (acc.map C.d)]) (K := b.length + 1) (get2 b _ _) hh
  unfold ltBody
  rw [sSeq_ev, sIf_ev, hT, toS_ok, if_neg (by decide), sNil_ev, seq_nx, sSeq_ev, s1, seq_nx, rest_app]
  have skip : w.tests = [] → w.nd = 1 → _ := fun e1 e2 => (⟨acc, ws, rfl, by rw [e1]; rfl, by omega, by omega, fun x hx => .inl hx, fun x hx => .inl hx⟩ : ∃ (acc' ws' : List C), (SR.nx [x0, some (.ref b.length), some (.ref (b.length + 1)), x3, some w.d] (b ++ [.lst (ws.map C.d), .lst (acc.map C.d)])) = SR.nx [x0, some (.ref b.length), some (.ref (b.length + 1)), x3, some w.d] (b ++ [.lst (ws'.map C.d), .lst (acc'.map C.d)]) ∧
      (rest ws').foldl add acc' = (w.tests ++ rest ws).foldl add acc ∧ ndA ws' + 1 ≤ ndA ws + w.nd ∧ ndA ws' + acc'.length ≤ ndA ws + w.nd + acc.length ∧ (∀ x ∈ ws', x ∈ ws ∨ x.ht ≤ w.ht) ∧ (∀ x ∈ acc', x ∈ acc ∨ x.ht ≤ w.ht))
  have leaf : w.tests = [w] → w.nd = 1 → ∀ X : SR, X = (if (!decide (w ∈ acc)) = true then sExpr (mMt kAppend (mVar 2) (aCons (mVar 4) aNil)) cl [x0, some (.ref b.length), some (.ref (b.length + 1)), x3, some w.d] (b ++ [.lst (ws.map C.d), .lst (acc.map C.d)]) else .nx [x0, some (.ref b.length), some (.ref (b.length + 1)), x3, some w.d] (b ++ [.lst (ws.map C.d), .lst (acc.map C.d)])) → ∃ (acc' ws' : List C), X = SR.nx [x0, some (.ref b.length), some (.ref (b.length + 1)), x3, some w.d] (b ++ [.lst (ws'.map C.d), .lst (acc'.map C.d)]) ∧
      (rest ws').foldl add acc' = (w.tests ++ rest ws).foldl add acc ∧ ndA ws' + 1 ≤ ndA ws + w.nd ∧ ndA ws' + acc'.length ≤ ndA ws + w.nd + acc.length ∧ (∀ x ∈ ws', x ∈ ws ∨ x.ht ≤ w.ht) ∧ (∀ x ∈ acc', x ∈ acc ∨ x.ht ≤ w.ht) := by
    intro e1 e2 X eX
    rw [eX, e1]
    by_cases q : w ∈ acc
    · refine ⟨acc, ws, by simp [q], ?_, by omega, by omega, fun x hx => .inl hx, fun x hx => .inl hx⟩
      rw [List.cons_append, List.nil_append, List.foldl_cons, show add acc w = acc from if_pos q]
    · refine ⟨acc ++ [w], ws, by rw [app2]; simp [q], ?_, by omega, by simp; omega, fun x hx => .inl hx, fun x hx => ?_⟩
      · rw [List.cons_append, List.nil_append, List.foldl_cons, show add acc w = acc ++ [w] from if_neg q]
      · rcases List.mem_append.mp hx with hx | hx
        · exact .inl hx
        · rw [List.mem_singleton.mp hx]; exact .inr (Nat.le_refl _)
  cases w with
  | not q =>
    refine ⟨acc, ws ++ [q], ?_, ?_, ?_, ?_, fun x hx => ?_, fun x hx => .inl hx⟩
    · rw [← app1 ws (mOp dIx (mVar 4) (mC (.int 1))) q (by omega) (by intro h; simp [C.d, ix1])]
      simp only [C.d, sIf_ev, tCmp_ev, mOp_ev, mVar_ev, mC_ev, List.getElem?_cons_succ, List.getElem?_cons_zero, bind_ok, ix0, mTup_ev, aCons_ev, aNil_ev]
      rw [freshT_ev _ (by simp), bind_ok, in_w2]
      simp [eq_w]
    · rw [rest_app]; rfl
    · rw [ndA_app, ndA_one]; simp only [C.nd]; omega
    · rw [ndA_app, ndA_one]; simp only [C.nd]; omega
    · rcases List.mem_append.mp hx with hx | hx
      · exact .inl hx
      · rw [List.mem_singleton.mp hx]; right; simp [C.ht]
  | bin o x y =>
    refine ⟨acc, ws ++ [x] ++ [y], ?_, ?_, ?_, ?_, fun z hx => ?_, fun x hx => .inl hx⟩
    · have a1 := app1 ws (mOp dIx (mVar 4) (mC (.int 1))) x (by omega) (by intro h; simp [C.d, ix1])
      have a2 := app1 (ws ++ [x]) (mOp dIx (mVar 4) (mC (.int 2))) y (by simp; simp only [C.nd] at hz; have := x.nd_pos; omega) (by intro h; simp [C.d, ix2])
      have e : tCmp (mOp (dIn false) (mOp dIx (mVar 4) (mC (.int 0))) (mTup (aCons (mC (.str [97, 110, 100])) (aCons (mC (.str [111, 114])) aNil)))) cl [x0, some (.ref b.length), some (.ref (b.length + 1)), x3, some (C.bin o x y).d] (b ++ [.lst (ws.map C.d), .lst (acc.map C.d)]) = .ok true (b ++ [.lst (ws.map C.d), .lst (acc.map C.d)]) := by
        cases o <;> simp [C.d, bw, ix0, in_w2]
      rw [sIf_ev, e, toS_ok, if_pos rfl, sSeq_ev, a1, seq_nx, a2]
    · rw [rest_app, rest_app]; simp [C.tests]
    · rw [ndA_app, ndA_app, ndA_one, ndA_one]; simp only [C.nd]; omega
    · rw [ndA_app, ndA_app, ndA_one, ndA_one]; simp only [C.nd]; omega
    · simp at hx
      rcases hx with hx | rfl | rfl
      · exact .inl hx
      · right; simp [C.ht]; omega
      · right; simp [C.ht]; omega
  | pl pp =>
    cases pp with
    | all => exact (by simpa [C.d, Pl.w, ix0, in_w2, nin_w2, eq_w] using skip rfl rfl)
    | none => exact (by simpa [C.d, Pl.w, ix0, in_w2, nin_w2, eq_w] using skip rfl rfl)
    | closed => exact leaf rfl rfl _ (by simp only [C.d, Pl.w] at hin ⊢; simp [ix0, in_w2, nin_w2, eq_w, hin])
    | owned => exact leaf rfl rfl _ (by simp only [C.d, Pl.w] at hin ⊢; simp [ix0, in_w2, nin_w2, eq_w, hin])
  | is f n => exact leaf rfl rfl _ (by simp only [C.d] at hin ⊢; simp [ix0, in_w2, nin_w2, eq_w, hin])
  | least f n => exact leaf rfl rfl _ (by simp only [C.d] at hin ⊢; simp [ix0, in_w2, nin_w2, eq_w, hin])
  | some r q => exact leaf rfl rfl _ (by simp only [C.d] at hin ⊢; simp [ix0, in_w2, nin_w2, eq_w, hin])
theorem rng_len (k : Nat) : (rngD 0 k).length = k := by rw [rngD_eq]; simp
theorem ltests_mem {c x : C} (h : x ∈ tsC c) : x ∈ c.tests := by
  have := (foldl_add c.tests [] List.nodup_nil).2 x
  rw [tsC, sortC_mem, this] at h
  simpa using h
theorem tsC_mem {c x : C} : x ∈ tsC c ↔ x ∈ c.tests := by
  have := (foldl_add c.tests [] List.nodup_nil).2 x
  rw [tsC, sortC_mem, this]
  simp
theorem tsC_nodup (c : C) : (tsC c).Nodup := (List.mergeSort_perm _ _).nodup_iff.mpr (foldl_add c.tests [] List.nodup_nil).1
theorem foldl_add_len : ∀ (xs k : List C), (xs.foldl add k).length ≤ k.length + xs.length
  | [], k => by simp
  | x :: xs, k => by
    rw [List.foldl_cons]
    have := foldl_add_len xs (add k x)
    have : (add k x).length ≤ k.length + 1 := by unfold add; split <;> simp
    simp; omega
theorem tsC_len (c : C) : (tsC c).length ≤ c.nd := by
  have h1 : (tsC c).length = (c.tests.foldl add []).length := List.length_mergeSort _
  have := foldl_add_len c.tests []
  have := tests_len c
  simp at *
  omega
theorem c_ltests {n : Nat} {c : C} {h : Hd} (hn : 1 ≤ n) (hb : c.nd ≤ 1999) (hh : c.ht ≤ 390) : callN T n 21 [.lst [c.d]] h = .ok (.lst ((tsC c).map C.d)) h := by
  obtain ⟨m, rfl⟩ := lvl hn
  rw [call_at (F := ⟨1, 5, b__law_tests⟩) rfl]
  generalize callN T m = cl
  have ea : ([D.lst [c.d]].map some ++ List.replicate (5 - 1) (none : Option D)) = [some (.lst [c.d]), none, none, none, none] := rfl
  rw [runFn_at (np := 1) (nn := 5) rfl ea]
  have hbd : b__law_tests = sSeq (sSet 1 (mB (gList true) (aCons (mVar 0) aNil))) (sSeq (sSet 2 (mLst true aNil)) (sSeq (sFor (iRng1 (mC (.int 2000))) (.nm 3) ltBody) (sRet (mB (gSorted false) (aCons (mVar 2) aNil))))) := rfl
  generalize hx : D.lst [c.d] = x0
  have s1 : sSet 1 (mB (gList true) (aCons (mVar 0) aNil)) cl [some x0, none, none, none, none] h = .nx [some x0, some (.ref h.length), none, none, none] (h ++ [.lst [c.d]]) := by rw [← hx]; simp [gList, seqOf, D.see]
  have s2 : sSet 2 (mLst true aNil) cl [some x0, some (.ref h.length), none, none, none] (h ++ [.lst [c.d]]) = .nx [some x0, some (.ref h.length), some (.ref (h.length + 1)), none, none] (h ++ [.lst [c.d], .lst []]) := by simp
  have hi : iRng1 (mC (.int 2000)) cl [some x0, some (.ref h.length), some (.ref (h.length + 1)), none, none] (h ++ [.lst [c.d], .lst []]) = .ok ⟨rngD 0 2000, none⟩ (h ++ [.lst [c.d], .lst []]) := by
    have := dRng1_ok (j := 2000) (h ++ [.lst [c.d], .lst []]) (by omega) (by omega)
    rw [iRng1_ev, mC_ev, bind_ok, this]
    rfl
  obtain ⟨t', ws', ef, et⟩ := sFor_gen (b := ltBody) (g := .nm 3) (I := fun ds t h' => ∃ (acc ws : List C) (x3 x4 : Option D), t = [some x0, some (.ref h.length), some (.ref (h.length + 1)), x3, x4] ∧ h' = h ++ [.lst (ws.map C.d), .lst (acc.map C.d)] ∧ (rest ws).foldl add acc = c.tests.foldl add [] ∧ ndA ws ≤ ds.length ∧ ndA ws + acc.length ≤ 1999 ∧ (∀ x ∈ ws, x.ht ≤ 390) ∧ ∀ x ∈ acc, x.ht ≤ 390)
    (O := fun x => ∃ (t' : Tau) (ws' : List D), x = .nx t' (h ++ [.lst ws', .lst ((c.tests.foldl add []).map C.d)]) ∧ t'[2]? = some (some (.ref (h.length + 1)))) hi
    (by
      rintro d ds t h' ⟨acc, ws, x3, x4, rfl, rfl, hf, hl, hk, h1, h2⟩
      refine ⟨trivial, _, rfl, ?_⟩
      show Turn _ _ (ltBody cl [some x0, some (.ref h.length), some (.ref (h.length + 1)), some d, x4] (h ++ [.lst (ws.map C.d), .lst (acc.map C.d)]))
      rcases List.eq_nil_or_concat ws with rfl | ⟨ws, w, rfl⟩
      · have hT := end_test (cl := cl) (t := [some x0, some (.ref h.length), some (.ref (h.length + 1)), some d, x4]) (h := h ++ [.lst (([] : List C).map C.d), .lst (acc.map C.d)]) (i := 1) (K := h.length) rfl (get1 h _ _)
        unfold ltBody
        rw [sSeq_ev, sIf_ev, hT, toS_ok, if_pos (by simp), sBreak_ev, seq_bk]
        exact .bk ⟨_, [], by rw [← hf]; rfl, rfl⟩
      · rw [List.concat_eq_append] at *
        obtain ⟨acc', ws', e1, e2, e3, e4, e5, e6⟩ := lt_step (cl := cl) (b := h) (x0 := some x0) (x3 := some d) (x4 := x4) (acc := acc) (ws := ws) (w := w) (by omega) (h1 w (by simp))
        rw [e1]
        have hw := h1 w (by simp)
        refine .nx ⟨acc', ws', _, _, rfl, rfl, e2.trans hf, by simp at hl; omega, by omega, fun x hx => ?_, fun x hx => ?_⟩
        · rcases e5 x hx with q | q
          · exact h1 x (by simp [q])
          · omega
        · rcases e6 x hx with q | q
          · exact h2 x q
          · omega)
    (by
      rintro t h' ⟨acc, ws, x3, x4, rfl, rfl, hf, hl, hk, h1, h2⟩
      have hw : ws = [] := by
        have := ndA_len ws
        simp at hl
        exact List.length_eq_zero_iff.mp (by omega)
      subst hw
      exact ⟨trivial, [some x0, some (.ref h.length), some (.ref (h.length + 1)), x3, x4], [], by rw [← hf]; rfl, rfl⟩)
    ⟨[], [c], none, none, rfl, rfl, by simp [rest], by rw [rng_len]; simp [ndA]; omega, by simp [ndA]; omega, by simpa using hh, by simp⟩
  rw [hbd, sSeq_ev, s1, seq_nx, sSeq_ev, s2, seq_nx, sSeq_ev, ef, seq_nx]
  have hlen : (sortC (c.tests.foldl add [])).length ≤ 16777216 := by have := tsC_len c; unfold tsC at this; omega
  have g := gSorted_C (m := false) (d := .ref (h.length + 1)) (h := h ++ [.lst ws', .lst ((c.tests.foldl add []).map C.d)]) (cs := c.tests.foldl add []) (by simp [seqOf, D.see]) (fun x hx => by
    have := (foldl_add c.tests [] List.nodup_nil).2 x
    rw [this] at hx
    exact Nat.le_trans (tests_ht c x (by simpa using hx)) hh)
  rw [freshF _ (by rw [List.length_map]; exact hlen)] at g
  rw [sRet_ev, mB_ev, aCons_ev, mVar_ev]
  simp only [et, bind_ok, aNil_ev]
  rw [g, toS_ok, fin_rt]
  exact fin1_app (by rw [lo_lst]; exact plainA_lo (plain_Cs _))
end K24

namespace K24
open PySem L2 Ev
/-! ### the indexed form -/
abbrev wTest : List Nat := [116, 101, 115, 116]
def idxD (ts : List C) : C → D
  | .pl .all => (C.pl .all).d
  | .pl .none => (C.pl .none).d
  | .not q => .tup [.str wNot, idxD ts q]
  | .bin o a b => .tup [.str (bw o), idxD ts a, idxD ts b]
  | c => .tup [.str wTest, .int (ts.idxOf c : Nat)]
theorem idxD_plain (ts : List C) : ∀ c : C, (idxD ts c).plain = true
  | .pl .all | .pl .none => rfl
  | .pl .closed | .pl .owned => rfl
  | .is _ _ | .least _ _ | .some _ _ => rfl
  | .not q => by simp [idxD, D.plain, D.plainA, idxD_plain ts q]
  | .bin o a b => by simp [idxD, D.plain, D.plainA, idxD_plain ts a, idxD_plain ts b]
theorem place_C (ts : List C) (c : C) : Ev.placeOf (ts.map C.d) c.d = ts.idxOf c := by
  unfold Ev.placeOf
  induction ts with
  | nil => rfl
  | cons a ts ih =>
    simp only [List.map_cons, eqv_C, List.idxOf_cons] at ih ⊢
    rw [ih]
    by_cases h : a = c
    · simp [h]
    · have q : (a == c) = false := beq_eq_false_iff_ne.mpr h
      simp [h, q]
theorem index_C {ts : List C} {c : C} {cl : Calls} {t : Tau} {h : Hd} {mo ma : M} (eo : mo cl t h = .ok (.tup (ts.map C.d)) h) (ea : ma cl t h = .ok c.d h) (hm : c ∈ ts) (hc : c.ht ≤ 390) : mMt kIndex mo (aCons ma aNil) cl t h = .ok (.int (ts.idxOf c : Nat)) h := by
  rw [mMt_ev, eo, bind_ok]
  have e1 : kindOf (.tup (ts.map C.d)) h = some .tuple := rfl
  have e2 : kIndex .tuple = some fIndexT := rfl
  simp only [e1, e2, aCons_ev, ea, bind_ok, aNil_ev]
  unfold fIndexT
  simp only [e1]
  unfold fIndex
  simp only [D.see]
  rw [if_pos ⟨(cmpOk_in hc _ (plain_Cs ts)).2, by rw [has_C]; exact decide_eq_true hm⟩, place_C]
theorem c_indexed (ts : List C) : ∀ (c : C) (n : Nat) (h : Hd), c.ht + 1 ≤ n → c.ht ≤ 390 → (∀ x ∈ c.tests, x ∈ ts) → callN T n 7 [c.d, .tup (ts.map C.d)] h = .ok (idxD ts c) h
  | .pl .all, n, h, hn, _, _ => by
    obtain ⟨m, rfl⟩ := lvl (k := 1) (n := n) (by omega)
    rw [call_at (F := ⟨2, 3, b_indexed⟩) rfl]
    simp [runFn, b_indexed, C.d, Pl.w, ix0, in_w2, fin1_same, idxD]
  | .pl .none, n, h, hn, _, _ => by
    obtain ⟨m, rfl⟩ := lvl (k := 1) (n := n) (by omega)
    rw [call_at (F := ⟨2, 3, b_indexed⟩) rfl]
    simp [runFn, b_indexed, C.d, Pl.w, ix0, in_w2, fin1_same, idxD]
  | .not q, n, h, hn, hh, ht => by
    obtain ⟨m, rfl⟩ := lvl (k := 1) (n := n) (by omega)
    rw [call_at (F := ⟨2, 3, b_indexed⟩) rfl]
    have e := c_indexed ts q m h (by simp only [C.ht] at hn; omega) (by simp only [C.ht] at hh; omega) (fun x hx => ht x (by simpa [C.tests] using hx))
    have l := plain_lo (n := h.length) (idxD_plain ts q)
    generalize callN T m = cl at e ⊢
    simp [runFn, b_indexed, C.d, ix0, ix1, in_w2, eq_w, e, fin1_same, idxD, l]
  | .bin o a b, n, h, hn, hh, ht => by
    obtain ⟨m, rfl⟩ := lvl (k := 1) (n := n) (by omega)
    rw [call_at (F := ⟨2, 3, b_indexed⟩) rfl]
    have e1 := c_indexed ts a m h (by simp only [C.ht] at hn; omega) (by simp only [C.ht] at hh; omega) (fun x hx => ht x (by simp [C.tests, hx]))
    have e2 := c_indexed ts b m h (by simp only [C.ht] at hn; omega) (by simp only [C.ht] at hh; omega) (fun x hx => ht x (by simp [C.tests, hx]))
    have l1 := plain_lo (n := h.length) (idxD_plain ts a)
    have l2 := plain_lo (n := h.length) (idxD_plain ts b)
    generalize callN T m = cl at e1 e2 ⊢
    cases o <;> simp [runFn, b_indexed, C.d, bw, ix0, ix1, ix2, in_w2, eq_w, e1, e2, fin1_same, idxD, l1, l2]
  | .pl .closed, n, h, hn, hh, ht => leaf (.pl .closed) n h hn hh (ht _ (by simp [C.tests])) ⟨_, _, rfl, by simp [Pl.w]⟩ rfl
  | .pl .owned, n, h, hn, hh, ht => leaf (.pl .owned) n h hn hh (ht _ (by simp [C.tests])) ⟨_, _, rfl, by simp [Pl.w]⟩ rfl
  | .is f w, n, h, hn, hh, ht => leaf (.is f w) n h hn hh (ht _ (by simp [C.tests])) ⟨_, _, rfl, by simp⟩ rfl
  | .least f w, n, h, hn, hh, ht => leaf (.least f w) n h hn hh (ht _ (by simp [C.tests])) ⟨_, _, rfl, by simp⟩ rfl
  | .some r q, n, h, hn, hh, ht => leaf (.some r q) n h hn hh (ht _ (by simp [C.tests])) ⟨_, _, rfl, by simp⟩ rfl
where
  leaf (c : C) (n : Nat) (h : Hd) (hn : c.ht + 1 ≤ n) (hh : c.ht ≤ 390) (hm : c ∈ ts) (hw : ∃ w r, c.d = .tup (.str w :: r) ∧ w ≠ wAll ∧ w ≠ wNone ∧ w ≠ wNot ∧ w ≠ wAnd ∧ w ≠ wOr) (hi : idxD ts c = .tup [.str wTest, .int (ts.idxOf c : Nat)]) : callN T n 7 [c.d, .tup (ts.map C.d)] h = .ok (idxD ts c) h := by
    obtain ⟨m, rfl⟩ := lvl (k := 1) (n := n) (by omega)
    rw [call_at (F := ⟨2, 3, b_indexed⟩) rfl]
    generalize callN T m = cl
    obtain ⟨w, r, ed, h1, h2, h3, h4, h5⟩ := hw
    rw [hi]
    have e := index_C (ts := ts) (c := c) (cl := cl) (t := [some c.d, some (.tup (ts.map C.d)), some (.str w)]) (h := h) (mo := mVar 1) (ma := mVar 0) rfl rfl hm hh
    rw [ed] at e ⊢
    have ea : ([D.tup (.str w :: r), .tup (ts.map C.d)].map some ++ List.replicate (3 - 2) (none : Option D)) = [some (.tup (.str w :: r)), some (.tup (ts.map C.d)), none] := rfl
    rw [runFn_at (np := 2) (nn := 3) rfl ea]
    unfold b_indexed
    simp only [sSeq_ev, sSet_ev, mOp_ev, mVar_ev, List.getElem?_cons_succ, List.getElem?_cons_zero, mC_ev, bind_ok, ix0, toS_ok, seq_nx, List.set_cons_succ, List.set_cons_zero, sIf_ev, tCmp_ev, mTup_ev, aCons_ev, aNil_ev, freshT_ev _ (show ([D.str [97, 108, 108], .str [110, 111, 110, 101]] : List D).length ≤ 16777216 by simp), freshT_ev _ (show ([D.str [97, 110, 100], .str [111, 114]] : List D).length ≤ 16777216 by simp), in_w2, eq_w, dBl_ev]
    have k1 : (([97, 108, 108] : List Nat) == w || ([110, 111, 110, 101] : List Nat) == w) = false := by simp [Ne.symm h1, Ne.symm h2]
    have k2 : (w == ([110, 111, 116] : List Nat)) = false := by simp [h3]
    have k3 : (([97, 110, 100] : List Nat) == w || ([111, 114] : List Nat) == w) = false := by simp [Ne.symm h4, Ne.symm h5]
    simp only [k1, k2, k3, Bool.false_eq_true, if_false, sNil_ev, seq_nx, mVar_ev, List.getElem?_cons_succ, List.getElem?_cons_zero, bind_ok, in_w2, eq_w, dBl_ev, toS_ok, sRet_ev, mTup_ev, aCons_ev, mC_ev, e, aNil_ev]
    rw [freshT_ev _ (by simp), toS_ok, fin_rt, fin1_same (by simp)]
/-! ### three-valued -/
def vD : Option Bool → D
  | none => .non
  | some b => .bl b
def v3 (κ : C → Option Bool) : C → Option Bool
  | .pl .all => some true
  | .pl .none => some false
  | .not q => (v3 κ q).map (!·)
  | .bin o a b => if v3 κ a = some o ∨ v3 κ b = some o then some o else if v3 κ a = none ∨ v3 κ b = none then none else some (!o)
  | c => κ c
theorem vD_plain (v : Option Bool) : (vD v).plain = true := by cases v <;> rfl
theorem vD_isN (v : Option Bool) (h : Hd) : dIsN false (vD v) h = .ok (.bl (decide (v = none))) h := by cases v <;> simp [vD, dIsN]
theorem vD_eq (v : Option Bool) (b : Bool) (h : Hd) : dEq false (vD v) (.bl b) h = .ok (.bl (decide (v = some b))) h := by
  cases v with
  | none => simp [vD, dEq, D.see, cmpOk, D.plain, near, D.dep, D.eqv]
  | some x => cases x <;> cases b <;> simp [vD, dEq, D.see, cmpOk, D.plain, near, D.dep]
theorem get_dict {es : List (D × D)} {h : Hd} {K : Nat} (e : h[K]? = some (.dict es)) {cl : Calls} {t : Tau} {mo ma : M} {k : D} (eo : mo cl t h = .ok (.ref K) h) (ea : ma cl t h = .ok k h) (hk : keyOk k = true) : mMt kGet mo (aCons ma aNil) cl t h = .ok ((getD es k).getD .non) h := by
  rw [mMt_ev, eo, bind_ok]
  have e1 : kindOf (.ref K) h = some .dict := by simp [kindOf, e]
  have e2 : kGet .dict = some fGet := rfl
  simp only [e1, e2, aCons_ev, ea, bind_ok, aNil_ev]
  unfold fGet
  have e3 : D.dict? h (.ref K) = some es := by simp [D.dict?, e]
  simp only [e3]
  rw [if_pos hk]
theorem c_ival (ts : List C) (κ : C → Option Bool) (es : List (D × D)) (K : Nat) : ∀ (c : C) (n : Nat) (h : Hd), c.ht + 1 ≤ n → h[K]? = some (.dict es) → (∀ x ∈ c.tests, (getD es (.int (ts.idxOf x : Nat))).getD .non = vD (κ x)) → callN T n 8 [idxD ts c, .ref K] h = .ok (vD (v3 κ c)) h
  | .pl .all, n, h, hn, _, _ => by
    obtain ⟨m, rfl⟩ := lvl (k := 1) (n := n) (by omega)
    rw [call_at (F := ⟨2, 7, b_indexed_value⟩) rfl]
    simp [runFn, b_indexed_value, idxD, C.d, Pl.w, ix0, in_w2, eq_w, fin1_same, v3, vD]
  | .pl .none, n, h, hn, _, _ => by
    obtain ⟨m, rfl⟩ := lvl (k := 1) (n := n) (by omega)
    rw [call_at (F := ⟨2, 7, b_indexed_value⟩) rfl]
    simp [runFn, b_indexed_value, idxD, C.d, Pl.w, ix0, in_w2, eq_w, fin1_same, v3, vD]
  | .not q, n, h, hn, he, hx => by
    obtain ⟨m, rfl⟩ := lvl (k := 1) (n := n) (by omega)
    rw [call_at (F := ⟨2, 7, b_indexed_value⟩) rfl]
    have e := c_ival ts κ es K q m h (by simp only [C.ht] at hn; omega) he (fun x hq => hx x (by simpa [C.tests] using hq))
    generalize callN T m = cl at e ⊢
    cases z : v3 κ q with
    | none =>
      rw [z] at e
      simp [runFn, b_indexed_value, idxD, ix0, ix1, in_w2, eq_w, e, fin1_same, v3, z, vD, dIsN]
    | some b =>
      rw [z] at e
      simp [runFn, b_indexed_value, idxD, ix0, ix1, in_w2, eq_w, e, fin1_same, v3, z, vD, dIsN, dNot]
  | .bin o a b, n, h, hn, he, hx => by
    obtain ⟨m, rfl⟩ := lvl (k := 1) (n := n) (by omega)
    rw [call_at (F := ⟨2, 7, b_indexed_value⟩) rfl]
    have e1 := c_ival ts κ es K a m h (by simp only [C.ht] at hn; omega) he (fun x hq => hx x (by simp [C.tests, hq]))
    have e2 := c_ival ts κ es K b m h (by simp only [C.ht] at hn; omega) he (fun x hq => hx x (by simp [C.tests, hq]))
    generalize callN T m = cl at e1 e2 ⊢
    simp only [v3]
    generalize v3 κ a = va at *
    generalize v3 κ b = vb at *
    cases o <;> cases va with
    | none => cases vb with
      | none => simp [runFn, b_indexed_value, idxD, bw, ix0, ix1, ix2, in_w2, eq_w, e1, e2, fin1_same, vD, dIsN, dNot, dEq, D.see, cmpOk, D.plain, near, D.dep, D.eqv]
      | some y => cases y <;> simp [runFn, b_indexed_value, idxD, bw, ix0, ix1, ix2, in_w2, eq_w, e1, e2, fin1_same, vD, dIsN, dNot, dEq, D.see, cmpOk, D.plain, near, D.dep, D.eqv]
    | some x => cases vb with
      | none => cases x <;> simp [runFn, b_indexed_value, idxD, bw, ix0, ix1, ix2, in_w2, eq_w, e1, e2, fin1_same, vD, dIsN, dNot, dEq, D.see, cmpOk, D.plain, near, D.dep, D.eqv]
      | some y => cases x <;> cases y <;> simp [runFn, b_indexed_value, idxD, bw, ix0, ix1, ix2, in_w2, eq_w, e1, e2, fin1_same, vD, dIsN, dNot, dEq, D.see, cmpOk, D.plain, near, D.dep, D.eqv]
  | .pl .closed, n, h, hn, he, hx => leaf (.pl .closed) n h hn he (hx _ (by simp [C.tests])) rfl rfl
  | .pl .owned, n, h, hn, he, hx => leaf (.pl .owned) n h hn he (hx _ (by simp [C.tests])) rfl rfl
  | .is f w, n, h, hn, he, hx => leaf (.is f w) n h hn he (hx _ (by simp [C.tests])) rfl rfl
  | .least f w, n, h, hn, he, hx => leaf (.least f w) n h hn he (hx _ (by simp [C.tests])) rfl rfl
  | .some r q, n, h, hn, he, hx => leaf (.some r q) n h hn he (hx _ (by simp [C.tests])) rfl rfl
where
  leaf (c : C) (n : Nat) (h : Hd) (hn : c.ht + 1 ≤ n) (he : h[K]? = some (.dict es)) (hx : (getD es (.int (ts.idxOf c : Nat))).getD .non = vD (κ c)) (hi : idxD ts c = .tup [.str wTest, .int (ts.idxOf c : Nat)]) (hv : v3 κ c = κ c) : callN T n 8 [idxD ts c, .ref K] h = .ok (vD (v3 κ c)) h := by
    obtain ⟨m, rfl⟩ := lvl (k := 1) (n := n) (by omega)
    rw [call_at (F := ⟨2, 7, b_indexed_value⟩) rfl]
    generalize callN T m = cl
    rw [hi, hv]
    have ea : ([D.tup [.str wTest, .int (ts.idxOf c : Nat)], .ref K].map some ++ List.replicate (7 - 2) (none : Option D)) = [some (.tup [.str wTest, .int (ts.idxOf c : Nat)]), some (.ref K), none, none, none, none, none] := rfl
    rw [runFn_at (np := 2) (nn := 7) rfl ea]
    have g := get_dict he (cl := cl) (t := [some (.tup [.str wTest, .int (ts.idxOf c : Nat)]), some (.ref K), some (.str wTest), none, none, none, none]) (mo := mVar 1) (ma := mOp dIx (mVar 0) (mC (.int 1))) (k := .int (ts.idxOf c : Nat)) rfl (by simp [ix1]) rfl
    rw [hx] at g
    unfold b_indexed_value
    simp only [sSeq_ev, sSet_ev, mOp_ev, mVar_ev, List.getElem?_cons_succ, List.getElem?_cons_zero, mC_ev, bind_ok, ix0, toS_ok, seq_nx, List.set_cons_succ, List.set_cons_zero, sIf_ev, tCmp_ev, eq_w, dBl_ev]
    rw [if_pos (by simp), sRet_ev, g, toS_ok, seq_rt, fin_rt, fin1_same (plain_lo (vD_plain _))]
end K24

namespace K24
open PySem L2 Ev
/-- a known test -/
def knD (p : C × Bool) : D := .tup [p.1.d, .bl p.2]
def kap (kn : List (C × Bool)) (x : C) : Option Bool := (kn.find? fun p => decide (p.1 = x)).map (·.2)
theorem kap_app (kn : List (C × Bool)) (p : C × Bool) (x : C) : kap (kn ++ [p]) x = (kap kn x).or (if p.1 = x then some p.2 else none) := by
  unfold kap
  rw [List.find?_append]
  cases h : kn.find? fun p => decide (p.1 = x) with
  | some q => simp
  | none =>
    by_cases hp : p.1 = x <;> simp [hp]
theorem kap_none {kn : List (C × Bool)} {x : C} (h : x ∉ kn.map (·.1)) : kap kn x = none := by
  unfold kap
  rw [List.find?_eq_none.mpr]
  · rfl
  · intro p hp q
    exact h (List.mem_map.mpr ⟨p, hp, of_decide_eq_true q⟩)
noncomputable abbrev vuBody : MS := (sIf (tCmp (mOp (dIn false) (mVar 4) (mVar 2)))
  (sPut (mVar 3) (mMt kIndex (mVar 2) (aCons (mVar 4) aNil)) (mVar 5))
  sNil)
/-- what the dict tells of the tests -/
def DictOk (ts : List C) (es : List (D × D)) (kn : List (C × Bool)) : Prop := ∀ x ∈ ts, getD es (.int (ts.idxOf x : Nat)) = (kap kn x).map D.bl
theorem idxOf_inj {ts : List C} {x y : C} (hx : x ∈ ts) (h : ts.idxOf x = ts.idxOf y) : x = y := by
  have h1 := List.idxOf_lt_length_iff.mpr hx
  have e1 : ts[ts.idxOf x]'h1 = x := List.getElem_idxOf h1
  have h2 : ts.idxOf y < ts.length := by rw [← h]; exact h1
  have e2 : ts[ts.idxOf y]'h2 = y := List.getElem_idxOf h2
  have : ts[ts.idxOf x]'h1 = ts[ts.idxOf y]'h2 := by congr 1
  rw [e1, e2] at this
  exact this
theorem vu_step {cl : Calls} {b : Hd} {ts : List C} {es : List (D × D)} {kn : List (C × Bool)} {p : C × Bool} {x0 x1 : Option D} (ok : DictOk ts es kn) (hp : p.1.ht ≤ 390) (hnew : p.1 ∉ kn.map (·.1)) (hz : es.length ≤ 1000000) :
    ∃ es', vuBody cl [x0, x1, some (.tup (ts.map C.d)), some (.ref b.length), some p.1.d, some (.bl p.2)] (b ++ [.dict es]) = .nx [x0, x1, some (.tup (ts.map C.d)), some (.ref b.length), some p.1.d, some (.bl p.2)] (b ++ [.dict es']) ∧ DictOk ts es' (kn ++ [p]) ∧ es'.length ≤ es.length + 1 := by
  have hin := in_tup (n := false) (cs := ts) (c := p.1) (h := b ++ [.dict es]) hp
  unfold vuBody
  rw [sIf_ev, tCmp_ev, mOp_ev]
  simp only [mVar_ev, List.getElem?_cons_succ, List.getElem?_cons_zero, bind_ok, hin]
  by_cases hm : p.1 ∈ ts
  · have ei := index_C (ts := ts) (c := p.1) (cl := cl) (t := [x0, x1, some (.tup (ts.map C.d)), some (.ref b.length), some p.1.d, some (.bl p.2)]) (h := b ++ [.dict es]) (mo := mVar 2) (ma := mVar 4) rfl rfl hm hp
    refine ⟨putD es (.int (ts.idxOf p.1 : Nat)) (.bl p.2), ?_, ?_, putD_len _ _ _⟩
    · have eb : (false != decide (p.1 ∈ ts)) = true := by simp [hm]
      rw [eb, dBl_ev, toS_ok, if_pos rfl, sPut_ev]
      simp only [mVar_ev, List.getElem?_cons_succ, List.getElem?_cons_zero, toS_ok, ei]
      have ep : dPut (.ref b.length) (.int (ts.idxOf p.1 : Nat)) (.bl p.2) (b ++ [.dict es]) = .ok () (b ++ [.dict (putD es (.int (ts.idxOf p.1 : Nat)) (.bl p.2))]) := by
        unfold dPut
        simp only [get_last]
        rw [if_pos ⟨rfl, by omega⟩, set_last]
      rw [ep, toS_ok]
    · intro x hx
      rw [getD_put, kap_app, ok x hx]
      by_cases he : p.1 = x
      · subst he
        rw [kap_none hnew]
        simp
      · have : ¬ ((ts.idxOf p.1 : Nat) : Int) = (ts.idxOf x : Nat) := fun z => he (idxOf_inj hm (by omega))
        rw [if_neg this, if_neg he]
        cases kap kn x <;> rfl
  · refine ⟨es, ?_, ?_, by omega⟩
    · have eb : (false != decide (p.1 ∈ ts)) = false := by simp [hm]
      rw [eb, dBl_ev, toS_ok, if_neg (by decide), sNil_ev]
    · intro x hx
      have : ¬ p.1 = x := by rintro rfl; exact hm hx
      rw [kap_app, ok x hx, if_neg this]
      cases kap kn x <;> rfl
theorem c_value {n : Nat} {c : C} {kn : List (C × Bool)} {h : Hd} (hn : c.ht + 3 ≤ n) (hb : c.nd ≤ 1000000) (hh : c.ht ≤ 390) (hk : ∀ p ∈ kn, p.1.ht ≤ 390) (hd : (kn.map (·.1)).Nodup) (hz : kn.length ≤ 100000) : callN T n 9 [c.d, .tup (kn.map knD)] h = .ok (vD (v3 (kap kn) c)) h := by
  obtain ⟨m, rfl⟩ := lvl (k := 1) (n := n) (by omega)
  rw [call_at (F := ⟨2, 6, b_value_under⟩) rfl]
  have e1 := c_tests (n := m) (c := c) (h := h) (by omega) hb hh
  have e2 : ∀ es, callN T m 7 [c.d, .tup ((tsC c).map C.d)] (h ++ [.dict es]) = .ok (idxD (tsC c) c) (h ++ [.dict es]) := fun es => c_indexed (tsC c) c m (h ++ [.dict es]) (by omega) hh (fun x hx => tsC_mem.mpr hx)
  have e3 : ∀ es, DictOk (tsC c) es kn → callN T m 8 [idxD (tsC c) c, .ref h.length] (h ++ [.dict es]) = .ok (vD (v3 (kap kn) c)) (h ++ [.dict es]) := fun es ok => c_ival (tsC c) (kap kn) es h.length c m (h ++ [.dict es]) (by omega) (get_last h _) (fun x hx => by
    rw [ok x (tsC_mem.mpr hx)]
    cases kap kn x <;> rfl)
  generalize callN T m = cl at e1 e2 e3 ⊢
  have ea : ([c.d, .tup (kn.map knD)].map some ++ List.replicate (6 - 2) (none : Option D)) = [some c.d, some (.tup (kn.map knD)), none, none, none, none] := rfl
  rw [runFn_at (np := 2) (nn := 6) rfl ea]
  have hbd : b_value_under = sSeq (sSet 2 (mCall 6 (aCons (mVar 0) aNil))) (sSeq (sSet 3 mDict0) (sSeq (sFor (iVal (mVar 1)) (.tp [4, 5]) vuBody) (sRet (mCall 8 (aCons (mCall 7 (aCons (mVar 0) (aCons (mVar 2) aNil))) (aCons (mVar 3) aNil)))))) := rfl
  have s1 : sSet 2 (mCall 6 (aCons (mVar 0) aNil)) cl [some c.d, some (.tup (kn.map knD)), none, none, none, none] h = .nx [some c.d, some (.tup (kn.map knD)), some (.tup ((tsC c).map C.d)), none, none, none] h := by simp [e1]
  have s2 : sSet 3 mDict0 cl [some c.d, some (.tup (kn.map knD)), some (.tup ((tsC c).map C.d)), none, none, none] h = .nx [some c.d, some (.tup (kn.map knD)), some (.tup ((tsC c).map C.d)), some (.ref h.length), none, none] (h ++ [.dict []]) := by simp [mDict0]
  have hi : iVal (mVar 1) cl [some c.d, some (.tup (kn.map knD)), some (.tup ((tsC c).map C.d)), some (.ref h.length), none, none] (h ++ [.dict []]) = .ok ⟨kn.map knD, none⟩ (h ++ [.dict []]) := rfl
  obtain ⟨t', es, ef, ok, et⟩ := sFor_gen (b := vuBody) (g := .tp [4, 5]) (I := fun ds t h' => ∃ (P r : List (C × Bool)) (es : List (D × D)) (x4 x5 : Option D), ds = r.map knD ∧ t = [some c.d, some (.tup (kn.map knD)), some (.tup ((tsC c).map C.d)), some (.ref h.length), x4, x5] ∧ h' = h ++ [.dict es] ∧ P ++ r = kn ∧ DictOk (tsC c) es P ∧ es.length ≤ P.length)
    (O := fun x => ∃ (t' : Tau) (es : List (D × D)), x = .nx t' (h ++ [.dict es]) ∧ DictOk (tsC c) es kn ∧ ∃ x4 x5, t' = [some c.d, some (.tup (kn.map knD)), some (.tup ((tsC c).map C.d)), some (.ref h.length), x4, x5]) hi
    (by
      rintro d ds t h' ⟨P, r, es, x4, x5, hr, rfl, rfl, hP, ok, hl⟩
      cases r with
      | nil => simp at hr
      | cons p r =>
        rw [List.map_cons] at hr
        obtain ⟨rfl, rfl⟩ := List.cons.inj hr
        refine ⟨trivial, [some c.d, some (.tup (kn.map knD)), some (.tup ((tsC c).map C.d)), some (.ref h.length), some p.1.d, some (.bl p.2)], rfl, ?_⟩
        have hmem : p ∈ kn := by rw [← hP]; simp
        have hnew : p.1 ∉ P.map (·.1) := by
          rw [← hP, List.map_append, List.map_cons, List.nodup_append] at hd
          intro z
          exact hd.2.2 _ z _ List.mem_cons_self rfl
        have hPl : P.length ≤ kn.length := by rw [← hP]; simp
        obtain ⟨es', e, ok', hl'⟩ := vu_step (cl := cl) (b := h) (x0 := some c.d) (x1 := some (.tup (kn.map knD))) ok (hk p hmem) hnew (by omega)
        rw [e]
        exact .nx ⟨P ++ [p], r, es', _, _, rfl, rfl, rfl, by rw [← hP]; simp, ok', by simp; omega⟩)
    (by
      rintro t h' ⟨P, r, es, x4, x5, hr, rfl, rfl, hP, ok, hl⟩
      cases r with
      | cons p r => simp at hr
      | nil =>
        rw [List.append_nil] at hP
        subst hP
        exact ⟨trivial, _, es, rfl, ok, x4, x5, rfl⟩)
    ⟨[], kn, [], none, none, rfl, rfl, rfl, rfl, fun x _ => by simp [getD, kap], by simp⟩
  obtain ⟨x4, x5, rfl⟩ := et
  rw [hbd, sSeq_ev, s1, seq_nx, sSeq_ev, s2, seq_nx, sSeq_ev, ef, seq_nx]
  simp only [sRet_ev, mCall_ev, aCons_ev, mVar_ev, List.getElem?_cons_succ, List.getElem?_cons_zero, bind_ok, aNil_ev, e2 es, e3 es ok, toS_ok, fin_rt]
  exact fin1_app (plain_lo (vD_plain _))
end K24

namespace K24
open PySem L2 Ev
def C.pre : C → List C
  | .not q => .not q :: q.pre
  | .bin o a b => .bin o a b :: (b.pre ++ a.pre)
  | c => [c]
def restP (ws : List C) : List C := ws.reverse.flatMap C.pre
theorem restP_app (ws : List C) (c : C) : restP (ws ++ [c]) = c.pre ++ restP ws := by simp [restP]
theorem pre_len : ∀ c : C, c.pre.length = c.nd
  | .pl _ | .is _ _ | .least _ _ | .some _ _ => by simp [C.pre, C.nd]
  | .not q => by simp [C.pre, C.nd, pre_len q]
  | .bin o a b => by simp [C.pre, C.nd, pre_len a, pre_len b]; omega
noncomputable abbrev lvBody : MS := (sSeq (sIf (tCmp (mOp (dEq false) (mB gLen (aCons (mVar 3) aNil)) (mC (.int 0))))
  sBreak
  sNil)
  (sSeq (sSet 6 (mMt kPop (mVar 3) aNil))
  (sSeq (sExpr (mMt kAppend (mVar 2) (aCons (mVar 6) aNil)))
  (sIf (tCmp (mOp (dIn false) (mOp dIx (mVar 6) (mC (.int 0))) (mTup (aCons (mC (.str [97, 110, 100])) (aCons (mC (.str [111, 114])) aNil)))))
  (sSeq (sExpr (mMt kAppend (mVar 3) (aCons (mOp dIx (mVar 6) (mC (.int 1))) aNil)))
  (sExpr (mMt kAppend (mVar 3) (aCons (mOp dIx (mVar 6) (mC (.int 2))) aNil))))
  (sIf (tCmp (mOp (dEq false) (mOp dIx (mVar 6) (mC (.int 0))) (mC (.str [110, 111, 116]))))
  (sExpr (mMt kAppend (mVar 3) (aCons (mOp dIx (mVar 6) (mC (.int 1))) aNil)))
  sNil)))))
theorem lv_step {cl : Calls} {b : Hd} {x0 x1 x4 x5 x6 x7 x8 x9 x10 : Option D} {acc ws : List C} {w : C} (hz : ndA (ws ++ [w]) + acc.length ≤ 1000000) :
    ∃ (ws' : List C), lvBody cl [x0, x1, some (.ref b.length), some (.ref (b.length + 1)), x4, x5, x6, x7, x8, x9, x10] (b ++ [.lst (acc.map C.d), .lst ((ws ++ [w]).map C.d)]) = .nx [x0, x1, some (.ref b.length), some (.ref (b.length + 1)), x4, x5, some w.d, x7, x8, x9, x10] (b ++ [.lst ((acc ++ [w]).map C.d), .lst (ws'.map C.d)]) ∧
      (acc ++ [w]) ++ restP ws' = acc ++ restP (ws ++ [w]) ∧ ndA ws' + 1 = ndA (ws ++ [w]) := by
  have hl := ndA_len ws
  rw [ndA_app, ndA_one] at *
  have hT := end_test (cl := cl) (t := [x0, x1, some (.ref b.length), some (.ref (b.length + 1)), x4, x5, x6, x7, x8, x9, x10]) (h := b ++ [.lst (acc.map C.d), .lst ((ws ++ [w]).map C.d)]) (i := 3) (K := b.length + 1) rfl (get2 b _ _)
  have p := pop_at (c := cl) (t := [x0, x1, some (.ref b.length), some (.ref (b.length + 1)), x4, x5, x6, x7, x8, x9, x10]) (i := 3) (L := b.length + 1) (ys := ws.map C.d) (y := w.d) rfl (get2 b (.lst (acc.map C.d)) _)
  rw [set2] at p
  have s1 : sSet 6 (mMt kPop (mVar 3) aNil) cl [x0, x1, some (.ref b.length), some (.ref (b.length + 1)), x4, x5, x6, x7, x8, x9, x10] (b ++ [.lst (acc.map C.d), .lst ((ws ++ [w]).map C.d)]) = .nx [x0, x1, some (.ref b.length), some (.ref (b.length + 1)), x4, x5, some w.d, x7, x8, x9, x10] (b ++ [.lst (acc.map C.d), .lst (ws.map C.d)]) := by
    rw [map_snoc, sSet_ev, p, toS_ok]; rfl
  have hne : decide ((ws ++ [w]).map C.d = []) = false := by simp
  rw [hne] at hT
  have a0 : sExpr (mMt kAppend (mVar 2) (aCons (mVar 6) aNil)) cl [x0, x1, some (.ref b.length), some (.ref (b.length + 1)), x4, x5, some w.d, x7, x8, x9, x10] (b ++ [.lst (acc.map C.d), .lst (ws.map C.d)]) = .nx [x0, x1, some (.ref b.length), some (.ref (b.length + 1)), x4, x5, some w.d, x7, x8, x9, x10] (b ++ [.lst ((acc ++ [w]).map C.d), .lst (ws.map C.d)]) := by
    have := append_at (c := cl) (t := [x0, x1, some (.ref b.length), some (.ref (b.length + 1)), x4, x5, some w.d, x7, x8, x9, x10]) (h := b ++ [.lst (acc.map C.d), .lst (ws.map C.d)]) (i := 2) (L := b.length) (m := mVar 6) (d := w.d) rfl (get1 b _ _) rfl (get1 b _ _) (by rw [List.length_map]; omega)
    rw [this, set1, map_snoc]
  have app1 : ∀ (us : List C) (m : M) (q : C), us.length ≤ 1000000 → (∀ h, m cl [x0, x1, some (.ref b.length), some (.ref (b.length + 1)), x4, x5, some w.d, x7, x8, x9, x10] h = .ok q.d h) → sExpr (mMt kAppend (mVar 3) (aCons m aNil)) cl [x0, x1, some (.ref b.length), some (.ref (b.length + 1)), x4, x5, some w.d, x7, x8, x9, x10] (b ++ [.lst ((acc ++ [w]).map C.d), .lst (us.map C.d)]) = .nx [x0, x1, some (.ref b.length), some (.ref (b.length + 1)), x4, x5, some w.d, x7, x8, x9, x10] (b ++ [.lst ((acc ++ [w]).map C.d), .lst ((us ++ [q]).map C.d)]) := by
    intro us m q hu em
    have := append_at (c := cl) (t := [x0, x1, some (.ref b.length), some (.ref (b.length + 1)), x4, x5, some w.d, x7, x8, x9, x10]) (h := b ++ [.lst ((acc ++ [w]).map C.d), .lst (us.map C.d)]) (i := 3) (L := b.length + 1) (m := m) (d := q.d) rfl (get2 b _ _) (em _) (get2 b _ _) (by rw [List.length_map]; omega)
    rw [this, set2, map_snoc us q]
  unfold lvBody
  rw [sSeq_ev, sIf_ev, hT, toS_ok, if_neg (by decide), sNil_ev, seq_nx, sSeq_ev, s1, seq_nx, sSeq_ev, a0, seq_nx, restP_app]
  have leaf : w.pre = [w] → w.nd = 1 → ∀ X : SR, X = .nx [x0, x1, some (.ref b.length), some (.ref (b.length + 1)), x4, x5, some w.d, x7, x8, x9, x10] (b ++ [.lst ((acc ++ [w]).map C.d), .lst (ws.map C.d)]) → ∃ ws' : List C, X = .nx [x0, x1, some (.ref b.length), some (.ref (b.length + 1)), x4, x5, some w.d, x7, x8, x9, x10] (b ++ [.lst ((acc ++ [w]).map C.d), .lst (ws'.map C.d)]) ∧ (acc ++ [w]) ++ restP ws' = acc ++ (w.pre ++ restP ws) ∧ ndA ws' + 1 = ndA ws + w.nd := fun e1 e2 X eX => ⟨ws, eX, by rw [e1]; simp, by omega⟩
  cases w with
  | not q =>
    refine ⟨ws ++ [q], ?_, by rw [restP_app]; simp [C.pre], by rw [ndA_app, ndA_one]; simp only [C.nd]; omega⟩
    have a1 := app1 ws (mOp dIx (mVar 6) (mC (.int 1))) q (by omega) (by intro h; simp [C.d, ix1])
    rw [← a1]
    generalize (b ++ [O.lst ((acc ++ [C.not q]).map C.d), .lst (ws.map C.d)]) = h1
    simp [C.d, ix0, in_w2, eq_w]
  | bin o x y =>
    refine ⟨ws ++ [x] ++ [y], ?_, by rw [restP_app, restP_app]; simp [C.pre], by rw [ndA_app, ndA_app, ndA_one, ndA_one]; simp only [C.nd]; omega⟩
    have a1 := app1 ws (mOp dIx (mVar 6) (mC (.int 1))) x (by omega) (by intro h; simp [C.d, ix1])
    have a2 := app1 (ws ++ [x]) (mOp dIx (mVar 6) (mC (.int 2))) y (by simp; simp only [C.nd] at hz; have := x.nd_pos; omega) (by intro h; simp [C.d, ix2])
    have e : ∀ h1, tCmp (mOp (dIn false) (mOp dIx (mVar 6) (mC (.int 0))) (mTup (aCons (mC (.str [97, 110, 100])) (aCons (mC (.str [111, 114])) aNil)))) cl [x0, x1, some (.ref b.length), some (.ref (b.length + 1)), x4, x5, some (C.bin o x y).d, x7, x8, x9, x10] h1 = .ok true h1 := by
      intro h1
      cases o <;> simp [C.d, bw, ix0, in_w2]
    rw [sIf_ev, e, toS_ok, if_pos rfl, sSeq_ev, a1, seq_nx, a2]
  | pl pp => exact leaf rfl rfl _ (by generalize (b ++ [O.lst ((acc ++ [C.pl pp]).map C.d), .lst (ws.map C.d)]) = h1; cases pp <;> simp [C.d, Pl.w, ix0, in_w2, eq_w])
  | is f n => exact leaf rfl rfl _ (by generalize (b ++ [O.lst ((acc ++ [C.is f n]).map C.d), .lst (ws.map C.d)]) = h1; simp [C.d, ix0, in_w2, eq_w])
  | least f n => exact leaf rfl rfl _ (by generalize (b ++ [O.lst ((acc ++ [C.least f n]).map C.d), .lst (ws.map C.d)]) = h1; simp [C.d, ix0, in_w2, eq_w])
  | some r q => exact leaf rfl rfl _ (by generalize (b ++ [O.lst ((acc ++ [C.some r q]).map C.d), .lst (ws.map C.d)]) = h1; simp [C.d, ix0, in_w2, eq_w])
/-! the values, from the end -/
noncomputable abbrev lwBody : MS := (sIf (tCmp (mOp (dEq false) (mOp dIx (mVar 6) (mC (.int 0))) (mC (.str [110, 111, 116]))))
  (sSeq (sSet 7 (mMt kPop (mVar 5) aNil))
  (sSeq (sIf (tCmp (mUn (dIsN true) (mVar 7)))
  (sSet 7 (mUn dNot (mVar 7)))
  sNil)
  (sExpr (mMt kAppend (mVar 5) (aCons (mVar 7) aNil)))))
  (sIf (tCmp (mOp (dIn false) (mOp dIx (mVar 6) (mC (.int 0))) (mTup (aCons (mC (.str [97, 110, 100])) (aCons (mC (.str [111, 114])) aNil)))))
  (sSeq (sSet 8 (mLst false (aCons (mMt kPop (mVar 5) aNil) (aCons (mMt kPop (mVar 5) aNil) aNil))))
  (sIf (tCmp (mOp (dIn false) (mOp (dEq false) (mOp dIx (mVar 6) (mC (.int 0))) (mC (.str [111, 114]))) (mVar 8)))
  (sExpr (mMt kAppend (mVar 5) (aCons (mOp (dEq false) (mOp dIx (mVar 6) (mC (.int 0))) (mC (.str [111, 114]))) aNil)))
  (sIf (tCmp (mOp (dIn false) (mC .non) (mVar 8)))
  (sExpr (mMt kAppend (mVar 5) (aCons (mC .non) aNil)))
  (sExpr (mMt kAppend (mVar 5) (aCons (mOp (dEq false) (mOp dIx (mVar 6) (mC (.int 0))) (mC (.str [97, 110, 100]))) aNil))))))
  (sIf (tCmp (mOp (dIn false) (mOp dIx (mVar 6) (mC (.int 0))) (mTup (aCons (mC (.str [97, 108, 108])) (aCons (mC (.str [110, 111, 110, 101])) aNil)))))
  (sExpr (mMt kAppend (mVar 5) (aCons (mOp (dEq false) (mOp dIx (mVar 6) (mC (.int 0))) (mC (.str [97, 108, 108]))) aNil)))
  (sSeq (sSet 9 (mComp false (iVal (mVar 1)) (.nm 10) [10] (tCmp (mOp (dEq false) (mOp dIx (mVar 10) (mC (.int 0))) (mVar 6))) (mOp dIx (mVar 10) (mC (.int 1)))))
  (sExpr (mMt kAppend (mVar 5) (aCons (mOp dIx (mOp (dAdd false) (mVar 9) (mLst false (aCons (mC .non) aNil))) (mC (.int 0))) aNil)))))))
theorem get3 (b : Hd) (x y z : O) : (b ++ [x, y, z])[b.length + 2]? = some z := by simp
theorem set3 (b : Hd) (x y z u : O) : (b ++ [x, y, z]).set (b.length + 2) u = b ++ [x, y, u] := by
  rw [List.set_append_right _ _ (by omega)]; simp
theorem snocV (vs : List (Option Bool)) (v : Option Bool) : (vs ++ [v]).map vD = vs.map vD ++ [vD v] := by simp
section
variable {cl : Calls} {b : Hd} {x0 x4 x7 x8 x9 x10 : Option D} {X Y : O} {kn : List (C × Bool)}
theorem lw_not {q : C} {vs : List (Option Bool)} {v : Option Bool} (hz : vs.length ≤ 1000000) : ∃ y7, lwBody cl [x0, some (.lst (kn.map knD)), some (.ref b.length), some (.ref (b.length + 1)), x4, some (.ref (b.length + 2)), some (C.not q).d, x7, x8, x9, x10] (b ++ [X, Y, .lst ((vs ++ [v]).map vD)]) =
    .nx [x0, some (.lst (kn.map knD)), some (.ref b.length), some (.ref (b.length + 1)), x4, some (.ref (b.length + 2)), some (C.not q).d, y7, x8, x9, x10] (b ++ [X, Y, .lst ((vs ++ [v.map (!·)]).map vD)]) := by
  have p := pop_at (c := cl) (t := [x0, some (.lst (kn.map knD)), some (.ref b.length), some (.ref (b.length + 1)), x4, some (.ref (b.length + 2)), some (C.not q).d, x7, x8, x9, x10]) (i := 5) (L := b.length + 2) (ys := vs.map vD) (y := vD v) rfl (get3 b X Y _)
  rw [set3, ← snocV] at p
  have s1 : sSet 7 (mMt kPop (mVar 5) aNil) cl [x0, some (.lst (kn.map knD)), some (.ref b.length), some (.ref (b.length + 1)), x4, some (.ref (b.length + 2)), some (C.not q).d, x7, x8, x9, x10] (b ++ [X, Y, .lst ((vs ++ [v]).map vD)]) = .nx [x0, some (.lst (kn.map knD)), some (.ref b.length), some (.ref (b.length + 1)), x4, some (.ref (b.length + 2)), some (C.not q).d, some (vD v), x8, x9, x10] (b ++ [X, Y, .lst (vs.map vD)]) := by
    rw [sSet_ev, p, toS_ok]; rfl
  have s2 : ∀ h, sIf (tCmp (mUn (dIsN true) (mVar 7))) (sSet 7 (mUn dNot (mVar 7))) sNil cl [x0, some (.lst (kn.map knD)), some (.ref b.length), some (.ref (b.length + 1)), x4, some (.ref (b.length + 2)), some (C.not q).d, some (vD v), x8, x9, x10] h = .nx [x0, some (.lst (kn.map knD)), some (.ref b.length), some (.ref (b.length + 1)), x4, some (.ref (b.length + 2)), some (C.not q).d, some (vD (v.map (!·))), x8, x9, x10] h := by
    intro h
    cases v <;> simp [vD, dIsN, dNot]
  have s3 := append_at (c := cl) (t := [x0, some (.lst (kn.map knD)), some (.ref b.length), some (.ref (b.length + 1)), x4, some (.ref (b.length + 2)), some (C.not q).d, some (vD (v.map (!·))), x8, x9, x10]) (h := b ++ [X, Y, .lst (vs.map vD)]) (i := 5) (L := b.length + 2) (m := mVar 7) (d := vD (v.map (!·))) rfl (get3 b X Y _) rfl (get3 b X Y _) (by rw [List.length_map]; omega)
  rw [set3, ← snocV] at s3
  refine ⟨some (vD (v.map (!·))), ?_⟩
  have e : ∀ h, tCmp (mOp (dEq false) (mOp dIx (mVar 6) (mC (.int 0))) (mC (.str [110, 111, 116]))) cl [x0, some (.lst (kn.map knD)), some (.ref b.length), some (.ref (b.length + 1)), x4, some (.ref (b.length + 2)), some (C.not q).d, x7, x8, x9, x10] h = .ok true h := by
    intro h; simp [C.d, ix0, eq_w]
  unfold lwBody
  rw [sIf_ev, e, toS_ok, if_pos rfl, sSeq_ev, s1, seq_nx, sSeq_ev, s2, seq_nx, s3]
theorem in_V (v w : Option Bool) (u : Option Bool) (h : Hd) : dIn false (vD u) (.lst [vD v, vD w]) h = .ok (.bl (decide (v = u ∨ w = u))) h := by
  have e1 : D.dict? h (.lst [vD v, vD w]) = none := rfl
  unfold dIn
  simp only [e1]
  unfold dInS
  simp only [D.see]
  rw [if_pos]
  · congr 2
    rcases v with _ | (_ | _) <;> rcases w with _ | (_ | _) <;> rcases u with _ | (_ | _) <;> simp [vD, D.has, D.eqv]
  · rcases v with _ | v <;> rcases w with _ | w <;> rcases u with _ | u <;> rfl
theorem lw_bin {o : Bool} {qa qb : C} {vs : List (Option Bool)} {va vb : Option Bool} (hz : vs.length ≤ 1000000) : ∃ y8, lwBody cl [x0, some (.lst (kn.map knD)), some (.ref b.length), some (.ref (b.length + 1)), x4, some (.ref (b.length + 2)), some (C.bin o qa qb).d, x7, x8, x9, x10] (b ++ [X, Y, .lst ((vs ++ [va] ++ [vb]).map vD)]) =
    .nx [x0, some (.lst (kn.map knD)), some (.ref b.length), some (.ref (b.length + 1)), x4, some (.ref (b.length + 2)), some (C.bin o qa qb).d, x7, y8, x9, x10] (b ++ [X, Y, .lst ((vs ++ [if va = some o ∨ vb = some o then some o else if va = none ∨ vb = none then none else some (!o)]).map vD)]) := by
  have p1 := pop_at (c := cl) (t := [x0, some (.lst (kn.map knD)), some (.ref b.length), some (.ref (b.length + 1)), x4, some (.ref (b.length + 2)), some (C.bin o qa qb).d, x7, x8, x9, x10]) (i := 5) (L := b.length + 2) (ys := (vs ++ [va]).map vD) (y := vD vb) rfl (get3 b X Y _)
  have p2 := pop_at (c := cl) (t := [x0, some (.lst (kn.map knD)), some (.ref b.length), some (.ref (b.length + 1)), x4, some (.ref (b.length + 2)), some (C.bin o qa qb).d, x7, x8, x9, x10]) (i := 5) (L := b.length + 2) (ys := vs.map vD) (y := vD va) rfl (get3 b X Y _)
  rw [set3, ← snocV] at p1 p2
  have s1 : sSet 8 (mLst false (aCons (mMt kPop (mVar 5) aNil) (aCons (mMt kPop (mVar 5) aNil) aNil))) cl [x0, some (.lst (kn.map knD)), some (.ref b.length), some (.ref (b.length + 1)), x4, some (.ref (b.length + 2)), some (C.bin o qa qb).d, x7, x8, x9, x10] (b ++ [X, Y, .lst ((vs ++ [va] ++ [vb]).map vD)]) = .nx [x0, some (.lst (kn.map knD)), some (.ref b.length), some (.ref (b.length + 1)), x4, some (.ref (b.length + 2)), some (C.bin o qa qb).d, x7, some (.lst [vD vb, vD va]), x9, x10] (b ++ [X, Y, .lst (vs.map vD)]) := by
    rw [sSet_ev, mLst_ev, aCons_ev, p1, bind_ok, aCons_ev, p2, bind_ok, aNil_ev, bind_ok, bind_ok, bind_ok, freshF _ (by simp), toS_ok]; rfl
  have e1 : ∀ h, tCmp (mOp (dEq false) (mOp dIx (mVar 6) (mC (.int 0))) (mC (.str [110, 111, 116]))) cl [x0, some (.lst (kn.map knD)), some (.ref b.length), some (.ref (b.length + 1)), x4, some (.ref (b.length + 2)), some (C.bin o qa qb).d, x7, x8, x9, x10] h = .ok false h := by
    intro h; cases o <;> simp [C.d, bw, ix0, eq_w]
  have e2 : ∀ h, tCmp (mOp (dIn false) (mOp dIx (mVar 6) (mC (.int 0))) (mTup (aCons (mC (.str [97, 110, 100])) (aCons (mC (.str [111, 114])) aNil)))) cl [x0, some (.lst (kn.map knD)), some (.ref b.length), some (.ref (b.length + 1)), x4, some (.ref (b.length + 2)), some (C.bin o qa qb).d, x7, x8, x9, x10] h = .ok true h := by
    intro h; cases o <;> simp [C.d, bw, ix0, in_w2]
  have isor : ∀ h, mOp (dEq false) (mOp dIx (mVar 6) (mC (.int 0))) (mC (.str [111, 114])) cl [x0, some (.lst (kn.map knD)), some (.ref b.length), some (.ref (b.length + 1)), x4, some (.ref (b.length + 2)), some (C.bin o qa qb).d, x7, some (.lst [vD vb, vD va]), x9, x10] h = .ok (vD (some o)) h := by
    intro h; cases o <;> simp [C.d, bw, ix0, eq_w, vD]
  have isand : ∀ h, mOp (dEq false) (mOp dIx (mVar 6) (mC (.int 0))) (mC (.str [97, 110, 100])) cl [x0, some (.lst (kn.map knD)), some (.ref b.length), some (.ref (b.length + 1)), x4, some (.ref (b.length + 2)), some (C.bin o qa qb).d, x7, some (.lst [vD vb, vD va]), x9, x10] h = .ok (vD (some (!o))) h := by
    intro h; cases o <;> simp [C.d, bw, ix0, eq_w, vD]
  have app : ∀ (m : M) (v : Option Bool), (∀ h, m cl [x0, some (.lst (kn.map knD)), some (.ref b.length), some (.ref (b.length + 1)), x4, some (.ref (b.length + 2)), some (C.bin o qa qb).d, x7, some (.lst [vD vb, vD va]), x9, x10] h = .ok (vD v) h) → sExpr (mMt kAppend (mVar 5) (aCons m aNil)) cl [x0, some (.lst (kn.map knD)), some (.ref b.length), some (.ref (b.length + 1)), x4, some (.ref (b.length + 2)), some (C.bin o qa qb).d, x7, some (.lst [vD vb, vD va]), x9, x10] (b ++ [X, Y, .lst (vs.map vD)]) = .nx [x0, some (.lst (kn.map knD)), some (.ref b.length), some (.ref (b.length + 1)), x4, some (.ref (b.length + 2)), some (C.bin o qa qb).d, x7, some (.lst [vD vb, vD va]), x9, x10] (b ++ [X, Y, .lst ((vs ++ [v]).map vD)]) := by
    intro m v em
    have := append_at (c := cl) (t := [x0, some (.lst (kn.map knD)), some (.ref b.length), some (.ref (b.length + 1)), x4, some (.ref (b.length + 2)), some (C.bin o qa qb).d, x7, some (.lst [vD vb, vD va]), x9, x10]) (h := b ++ [X, Y, .lst (vs.map vD)]) (i := 5) (L := b.length + 2) (m := m) (d := vD v) rfl (get3 b X Y _) (em _) (get3 b X Y _) (by rw [List.length_map]; omega)
    rw [this, set3, snocV vs v]
  refine ⟨some (.lst [vD vb, vD va]), ?_⟩
  unfold lwBody
  rw [sIf_ev, e1, toS_ok, if_neg (by decide), sIf_ev, e2, toS_ok, if_pos rfl, sSeq_ev, s1, seq_nx]
  have t1 : ∀ h, tCmp (mOp (dIn false) (mOp (dEq false) (mOp dIx (mVar 6) (mC (.int 0))) (mC (.str [111, 114]))) (mVar 8)) cl [x0, some (.lst (kn.map knD)), some (.ref b.length), some (.ref (b.length + 1)), x4, some (.ref (b.length + 2)), some (C.bin o qa qb).d, x7, some (.lst [vD vb, vD va]), x9, x10] h = .ok (decide (vb = some o ∨ va = some o)) h := by
    intro h
    rw [tCmp_ev]
    have : ∀ (A B : M) t h, mOp (dIn false) A B cl t h = (A cl t h).bind fun x h1 => (B cl t h1).bind fun y h2 => dIn false x y h2 := fun _ _ _ _ => rfl
    rw [this, isor, bind_ok]
    simp only [mVar_ev, List.getElem?_cons_succ, List.getElem?_cons_zero, bind_ok, in_V, dBl_ev]
  have t2 : ∀ h, tCmp (mOp (dIn false) (mC .non) (mVar 8)) cl [x0, some (.lst (kn.map knD)), some (.ref b.length), some (.ref (b.length + 1)), x4, some (.ref (b.length + 2)), some (C.bin o qa qb).d, x7, some (.lst [vD vb, vD va]), x9, x10] h = .ok (decide (vb = none ∨ va = none)) h := by
    intro h
    have this : dIn false .non (.lst [vD vb, vD va]) h = .ok (.bl (decide (vb = none ∨ va = none))) h := in_V vb va none h
    simp only [tCmp_ev, mOp_ev, mC_ev, mVar_ev, List.getElem?_cons_succ, List.getElem?_cons_zero, bind_ok, this, dBl_ev]
  rw [sIf_ev, t1, toS_ok]
  by_cases h1 : va = some o ∨ vb = some o
  · rw [if_pos h1, if_pos (decide_eq_true h1.symm), app _ _ isor]
  · rw [if_neg h1, if_neg (fun z => h1 (of_decide_eq_true z).symm), sIf_ev, t2, toS_ok]
    by_cases h2 : va = none ∨ vb = none
    · rw [if_pos h2, if_pos (decide_eq_true h2.symm), app (mC .non) none (fun h => rfl)]
    · rw [if_neg h2, if_neg (fun z => h2 (of_decide_eq_true z).symm), app _ _ isand]
end
end K24

namespace K24
open PySem L2 Ev
section
variable {cl : Calls} {b : Hd} {x0 x4 x7 x8 x9 x10 : Option D} {X Y : O} {kn : List (C × Bool)}
theorem lw_pl {c : C} {v : Bool} {vs : List (Option Bool)} (hc : c = .pl .all ∧ v = true ∨ c = .pl .none ∧ v = false) (hz : vs.length ≤ 1000000) : lwBody cl [x0, some (.lst (kn.map knD)), some (.ref b.length), some (.ref (b.length + 1)), x4, some (.ref (b.length + 2)), some c.d, x7, x8, x9, x10] (b ++ [X, Y, .lst (vs.map vD)]) =
    .nx [x0, some (.lst (kn.map knD)), some (.ref b.length), some (.ref (b.length + 1)), x4, some (.ref (b.length + 2)), some c.d, x7, x8, x9, x10] (b ++ [X, Y, .lst ((vs ++ [some v]).map vD)]) := by
  have app := append_at (c := cl) (t := [x0, some (.lst (kn.map knD)), some (.ref b.length), some (.ref (b.length + 1)), x4, some (.ref (b.length + 2)), some c.d, x7, x8, x9, x10]) (h := b ++ [X, Y, .lst (vs.map vD)]) (i := 5) (L := b.length + 2) (m := mOp (dEq false) (mOp dIx (mVar 6) (mC (.int 0))) (mC (.str [97, 108, 108]))) (d := vD (some v)) (xs := vs.map vD) rfl (get3 b X Y _) (by rcases hc with ⟨rfl, rfl⟩ | ⟨rfl, rfl⟩ <;> simp [C.d, Pl.w, ix0, eq_w, vD]) (get3 b X Y _) (by rw [List.length_map]; omega)
  rw [set3, ← snocV] at app
  rw [← app]
  generalize (b ++ [X, Y, O.lst (vs.map vD)]) = h1
  unfold lwBody
  rcases hc with ⟨rfl, rfl⟩ | ⟨rfl, rfl⟩ <;> simp [C.d, Pl.w, ix0, eq_w, in_w2]
theorem found_C (src : Src) (t : Tau) (h : Hd) (c : C) (hs : src.ok h) (ht : t.length = 11) (h6 : t[6]? = some (some c.d)) (hc : c.ht ≤ 390) : ∀ kn : List (C × Bool), (∀ p ∈ kn, p.1.ht ≤ 390) → compL src (stepC cl t (.nm 10) (tCmp (mOp (dEq false) (mOp dIx (mVar 10) (mC (.int 0))) (mVar 6))) (mOp dIx (mVar 10) (mC (.int 1)))) (kn.map knD) h = .ok ((kn.filter fun p => decide (p.1 = c)).map fun p => .bl p.2) h := by
  intro kn hk
  rw [comp_pure hs (f := fun d => match d with | .tup [x, .bl v] => (if D.eqv x c.d then some (.bl v) else none) | _ => none)]
  · congr 1
    rw [List.filterMap_map]
    clear hk
    induction kn with
    | nil => rfl
    | cons p kn ih =>
      rw [List.filterMap_cons, List.filter_cons]
      have e : ((fun d => match d with | .tup [x, .bl v] => (if D.eqv x c.d then some (D.bl v) else none) | _ => none) ∘ knD) p = if p.1 = c then some (.bl p.2) else none := by
        simp [knD, eqv_C]
      rw [e]
      by_cases q : p.1 = c
      · simp only [q, if_true, decide_true, List.map_cons]
        rw [ih]
      · simp only [q, if_false, decide_false, Bool.false_eq_true]
        rw [ih]
  · intro d hd
    obtain ⟨p, hp, rfl⟩ := List.mem_map.mp hd
    have e1 : (t.set 10 (some (knD p)))[10]? = some (some (knD p)) := List.getElem?_set_self (by omega)
    have e2 : (t.set 10 (some (knD p)))[6]? = some (some c.d) := by rw [List.getElem?_set_ne (by omega)]; exact h6
    have eq := eq_C (a := p.1) (b := c) (h := h) (hk p hp)
    have k0 : dIx (knD p) (.int 0) h = .ok p.1.d h := ix0 h
    have k1 : dIx (knD p) (.int 1) h = .ok (.bl p.2) h := ix1 h
    unfold stepC asg
    simp only [tCmp_ev, mOp_ev, mVar_ev, mC_ev, e1, e2, bind_ok, k0, k1, eq, dBl_ev]
    show noX _ = .ok (if D.eqv p.1.d c.d then some (D.bl p.2) else none) h
    rw [eqv_C]
    by_cases q : p.1 = c
    · rw [decide_eq_true q, if_pos rfl, if_pos rfl]; rfl
    · rw [decide_eq_false q, if_neg (by decide), if_neg (by decide)]; rfl
theorem lw_leaf {c : C} {vs : List (Option Bool)} (hw : ∃ w r, c.d = .tup (.str w :: r) ∧ w ≠ wAll ∧ w ≠ wNone ∧ w ≠ wNot ∧ w ≠ wAnd ∧ w ≠ wOr) (hc : c.ht ≤ 390) (hk : ∀ p ∈ kn, p.1.ht ≤ 390) (hkl : kn.length ≤ 100000) (hz : vs.length ≤ 1000000) : ∃ y9, lwBody cl [x0, some (.lst (kn.map knD)), some (.ref b.length), some (.ref (b.length + 1)), x4, some (.ref (b.length + 2)), some c.d, x7, x8, x9, x10] (b ++ [X, Y, .lst (vs.map vD)]) =
    .nx [x0, some (.lst (kn.map knD)), some (.ref b.length), some (.ref (b.length + 1)), x4, some (.ref (b.length + 2)), some c.d, x7, x8, y9, x10] (b ++ [X, Y, .lst ((vs ++ [kap kn c]).map vD)]) := by
  obtain ⟨w, r, ed, h1, h2, h3, h4, h5⟩ := hw
  have e1 : ∀ h, tCmp (mOp (dEq false) (mOp dIx (mVar 6) (mC (.int 0))) (mC (.str [110, 111, 116]))) cl [x0, some (.lst (kn.map knD)), some (.ref b.length), some (.ref (b.length + 1)), x4, some (.ref (b.length + 2)), some c.d, x7, x8, x9, x10] h = .ok false h := by
    intro h; rw [ed]; simp [ix0, eq_w, h3]
  have e2 : ∀ h, tCmp (mOp (dIn false) (mOp dIx (mVar 6) (mC (.int 0))) (mTup (aCons (mC (.str [97, 110, 100])) (aCons (mC (.str [111, 114])) aNil)))) cl [x0, some (.lst (kn.map knD)), some (.ref b.length), some (.ref (b.length + 1)), x4, some (.ref (b.length + 2)), some c.d, x7, x8, x9, x10] h = .ok false h := by
    intro h; rw [ed]; simp [ix0, in_w2, Ne.symm h4, Ne.symm h5]
  have e3 : ∀ h, tCmp (mOp (dIn false) (mOp dIx (mVar 6) (mC (.int 0))) (mTup (aCons (mC (.str [97, 108, 108])) (aCons (mC (.str [110, 111, 110, 101])) aNil)))) cl [x0, some (.lst (kn.map knD)), some (.ref b.length), some (.ref (b.length + 1)), x4, some (.ref (b.length + 2)), some c.d, x7, x8, x9, x10] h = .ok false h := by
    intro h; rw [ed]; simp [ix0, in_w2, Ne.symm h1, Ne.symm h2]
  obtain ⟨fs, hfs⟩ : ∃ fs : List D, fs = (kn.filter fun p => decide (p.1 = c)).map fun p => .bl p.2 := ⟨_, rfl⟩
  have hlf : fs.length ≤ 100000 := by
    rw [hfs, List.length_map]
    have := List.length_filter_le (fun p : C × Bool => decide (p.1 = c)) kn
    omega
  have s9 : ∀ h, sSet 9 (mComp false (iVal (mVar 1)) (.nm 10) [10] (tCmp (mOp (dEq false) (mOp dIx (mVar 10) (mC (.int 0))) (mVar 6))) (mOp dIx (mVar 10) (mC (.int 1)))) cl [x0, some (.lst (kn.map knD)), some (.ref b.length), some (.ref (b.length + 1)), x4, some (.ref (b.length + 2)), some c.d, x7, x8, x9, x10] h = .nx [x0, some (.lst (kn.map knD)), some (.ref b.length), some (.ref (b.length + 1)), x4, some (.ref (b.length + 2)), some c.d, x7, x8, some (.lst fs), x10] h := by
    intro h
    have hi : iVal (mVar 1) cl [x0, some (.lst (kn.map knD)), some (.ref b.length), some (.ref (b.length + 1)), x4, some (.ref (b.length + 2)), some c.d, x7, x8, x9, x10] h = .ok ⟨kn.map knD, none⟩ h := rfl
    rw [sSet_ev, mComp, hi, bind_ok]
    have := found_C (cl := cl) ⟨kn.map knD, none⟩ (wipeT [x0, some (.lst (kn.map knD)), some (.ref b.length), some (.ref (b.length + 1)), x4, some (.ref (b.length + 2)), some c.d, x7, x8, x9, x10] [10]) h c trivial rfl rfl hc kn hk
    rw [this, ← hfs, bind_ok, freshF _ (by omega), toS_ok]
    rfl
  have hd : ∀ h, mOp dIx (mOp (dAdd false) (mVar 9) (mLst false (aCons (mC .non) aNil))) (mC (.int 0)) cl [x0, some (.lst (kn.map knD)), some (.ref b.length), some (.ref (b.length + 1)), x4, some (.ref (b.length + 2)), some c.d, x7, x8, some (.lst fs), x10] h = .ok (vD (kap kn c)) h := by
    intro h
    have a1 : dAdd false (.lst fs) (.lst [.non]) h = .ok (.lst (fs ++ [.non])) h := by
      have : fs.length + 1 ≤ 16777216 := by omega
      simp [dAdd, D.items?, this]
    have a2 : (fs ++ [D.non])[0]? = some (vD (kap kn c)) := by
      rw [hfs]
      unfold kap
      rw [← List.head?_filter]
      cases q : kn.filter fun p => decide (p.1 = c) with
      | nil => simp [vD]
      | cons p l => simp [vD]
    have a3 : dIx (.lst (fs ++ [.non])) (.int 0) h = .ok (vD (kap kn c)) h := by
      obtain ⟨x, r, er⟩ : ∃ x r, fs ++ [D.non] = x :: r := by cases fs <;> exact ⟨_, _, rfl⟩
      rw [er] at a2 ⊢
      have : x = vD (kap kn c) := by simpa using a2
      rw [this]
      simp [dIx, dIxS, D.dict?, D.see, ixI]
    simp only [mOp_ev, mVar_ev, List.getElem?_cons_succ, List.getElem?_cons_zero, bind_ok, mLst_ev, aCons_ev, mC_ev, aNil_ev, freshF _ (show ([D.non] : List D).length ≤ 16777216 by simp), a1, a3]
  have app := append_at (c := cl) (t := [x0, some (.lst (kn.map knD)), some (.ref b.length), some (.ref (b.length + 1)), x4, some (.ref (b.length + 2)), some c.d, x7, x8, some (.lst fs), x10]) (h := b ++ [X, Y, .lst (vs.map vD)]) (i := 5) (L := b.length + 2) (d := vD (kap kn c)) rfl (get3 b X Y _) (hd _) (get3 b X Y _) (by rw [List.length_map]; omega)
  rw [set3, ← snocV] at app
  refine ⟨some (.lst fs), ?_⟩
  unfold lwBody
  rw [sIf_ev, e1, toS_ok, if_neg (by decide), sIf_ev, e2, toS_ok, if_neg (by decide), sIf_ev, e3, toS_ok, if_neg (by decide), sSeq_ev, s9, seq_nx, app]
noncomputable def stepW (c : Calls) (d : D) (t : Tau) (h : Hd) : SR := match asg (.nm 6) d t with
  | some t' => lwBody c t' h
  | none => .stuck
theorem lw_all (src : Src) (hk : ∀ p ∈ kn, p.1.ht ≤ 390) (hkl : kn.length ≤ 100000) (ok : ∀ Z, src.ok (b ++ [X, Y, Z])) : ∀ (c : C) (rs : List D) (vs : List (Option Bool)) (x6 x7 x8 x9 : Option D), c.ht ≤ 390 → vs.length + c.nd ≤ 1000000 →
    ∃ y6 y7 y8 y9, forL src (stepW cl) (c.pre.reverse.map C.d ++ rs) [x0, some (.lst (kn.map knD)), some (.ref b.length), some (.ref (b.length + 1)), x4, some (.ref (b.length + 2)), x6, x7, x8, x9, x10] (b ++ [X, Y, .lst (vs.map vD)]) = forL src (stepW cl) rs [x0, some (.lst (kn.map knD)), some (.ref b.length), some (.ref (b.length + 1)), x4, some (.ref (b.length + 2)), y6, y7, y8, y9, x10] (b ++ [X, Y, .lst ((vs ++ [v3 (kap kn) c]).map vD)]) := by
  have one : ∀ (c : C) (rs : List D) (vs us : List (Option Bool)) (x6 x7 x8 x9 y7 y8 y9 : Option D), lwBody cl [x0, some (.lst (kn.map knD)), some (.ref b.length), some (.ref (b.length + 1)), x4, some (.ref (b.length + 2)), some c.d, x7, x8, x9, x10] (b ++ [X, Y, .lst (vs.map vD)]) = .nx [x0, some (.lst (kn.map knD)), some (.ref b.length), some (.ref (b.length + 1)), x4, some (.ref (b.length + 2)), some c.d, y7, y8, y9, x10] (b ++ [X, Y, .lst (us.map vD)]) →
      forL src (stepW cl) (c.d :: rs) [x0, some (.lst (kn.map knD)), some (.ref b.length), some (.ref (b.length + 1)), x4, some (.ref (b.length + 2)), x6, x7, x8, x9, x10] (b ++ [X, Y, .lst (vs.map vD)]) = forL src (stepW cl) rs [x0, some (.lst (kn.map knD)), some (.ref b.length), some (.ref (b.length + 1)), x4, some (.ref (b.length + 2)), some c.d, y7, y8, y9, x10] (b ++ [X, Y, .lst (us.map vD)]) := by
    intro c rs vs us x6 x7 x8 x9 y7 y8 y9 e
    conv => lhs; unfold forL
    have est : stepW cl c.d [x0, some (.lst (kn.map knD)), some (.ref b.length), some (.ref (b.length + 1)), x4, some (.ref (b.length + 2)), x6, x7, x8, x9, x10] (b ++ [X, Y, .lst (vs.map vD)]) = lwBody cl [x0, some (.lst (kn.map knD)), some (.ref b.length), some (.ref (b.length + 1)), x4, some (.ref (b.length + 2)), some c.d, x7, x8, x9, x10] (b ++ [X, Y, .lst (vs.map vD)]) := rfl
    rw [if_pos (ok _), est, e, turn_nx]
  intro c
  induction c with
  | not q ih =>
    intro rs vs x6 x7 x8 x9 hc hz
    simp only [C.ht] at hc
    simp only [C.nd] at hz
    obtain ⟨y6, y7, y8, y9, e⟩ := ih ((C.not q).d :: rs) vs x6 x7 x8 x9 (by omega) (by omega)
    obtain ⟨z7, e2⟩ := lw_not (cl := cl) (b := b) (x0 := x0) (x4 := x4) (x7 := y7) (x8 := y8) (x9 := y9) (x10 := x10) (X := X) (Y := Y) (kn := kn) (q := q) (vs := vs) (v := v3 (kap kn) q) (by omega)
    refine ⟨some (C.not q).d, z7, y8, y9, ?_⟩
    rw [show (C.not q).pre.reverse.map C.d ++ rs = q.pre.reverse.map C.d ++ ((C.not q).d :: rs) by simp [C.pre], e, one _ _ _ _ _ _ _ _ _ _ _ e2]
    rfl
  | bin o qa qb iha ihb =>
    intro rs vs x6 x7 x8 x9 hc hz
    simp only [C.ht] at hc
    simp only [C.nd] at hz
    obtain ⟨y6, y7, y8, y9, e⟩ := iha (qb.pre.reverse.map C.d ++ ((C.bin o qa qb).d :: rs)) vs x6 x7 x8 x9 (by omega) (by omega)
    obtain ⟨z6, z7, z8, z9, e1⟩ := ihb ((C.bin o qa qb).d :: rs) (vs ++ [v3 (kap kn) qa]) y6 y7 y8 y9 (by omega) (by have := qa.nd_pos; simp; omega)
    obtain ⟨w8, e2⟩ := lw_bin (cl := cl) (b := b) (x0 := x0) (x4 := x4) (x7 := z7) (x8 := z8) (x9 := z9) (x10 := x10) (X := X) (Y := Y) (kn := kn) (o := o) (qa := qa) (qb := qb) (vs := vs) (va := v3 (kap kn) qa) (vb := v3 (kap kn) qb) (by omega)
    refine ⟨some (C.bin o qa qb).d, z7, w8, z9, ?_⟩
    rw [show (C.bin o qa qb).pre.reverse.map C.d ++ rs = qa.pre.reverse.map C.d ++ (qb.pre.reverse.map C.d ++ ((C.bin o qa qb).d :: rs)) by simp [C.pre], e, e1, one _ _ _ _ _ _ _ _ _ _ _ e2]
    rfl
  | pl pp =>
    intro rs vs x6 x7 x8 x9 hc hz
    simp only [C.nd] at hz
    cases pp with
    | all => exact ⟨_, _, _, _, one _ rs _ _ x6 _ _ _ _ _ _ (lw_pl (.inl ⟨rfl, rfl⟩) (by omega))⟩
    | none => exact ⟨_, _, _, _, one _ rs _ _ x6 _ _ _ _ _ _ (lw_pl (.inr ⟨rfl, rfl⟩) (by omega))⟩
    | closed =>
      obtain ⟨y9, e⟩ := lw_leaf (cl := cl) (b := b) (x0 := x0) (x4 := x4) (x7 := x7) (x8 := x8) (x9 := x9) (x10 := x10) (X := X) (Y := Y) (kn := kn) (c := .pl .closed) (vs := vs) ⟨_, _, rfl, by simp [Pl.w]⟩ hc hk hkl (by omega)
      exact ⟨_, _, _, _, one _ rs _ _ x6 _ _ _ _ _ _ e⟩
    | owned =>
      obtain ⟨y9, e⟩ := lw_leaf (cl := cl) (b := b) (x0 := x0) (x4 := x4) (x7 := x7) (x8 := x8) (x9 := x9) (x10 := x10) (X := X) (Y := Y) (kn := kn) (c := .pl .owned) (vs := vs) ⟨_, _, rfl, by simp [Pl.w]⟩ hc hk hkl (by omega)
      exact ⟨_, _, _, _, one _ rs _ _ x6 _ _ _ _ _ _ e⟩
  | is f n =>
    intro rs vs x6 x7 x8 x9 hc hz
    simp only [C.nd] at hz
    obtain ⟨y9, e⟩ := lw_leaf (cl := cl) (b := b) (x0 := x0) (x4 := x4) (x7 := x7) (x8 := x8) (x9 := x9) (x10 := x10) (X := X) (Y := Y) (kn := kn) (c := .is f n) (vs := vs) ⟨_, _, rfl, by simp⟩ hc hk hkl (by omega)
    exact ⟨_, _, _, _, one _ rs _ _ x6 _ _ _ _ _ _ e⟩
  | least f n =>
    intro rs vs x6 x7 x8 x9 hc hz
    simp only [C.nd] at hz
    obtain ⟨y9, e⟩ := lw_leaf (cl := cl) (b := b) (x0 := x0) (x4 := x4) (x7 := x7) (x8 := x8) (x9 := x9) (x10 := x10) (X := X) (Y := Y) (kn := kn) (c := .least f n) (vs := vs) ⟨_, _, rfl, by simp⟩ hc hk hkl (by omega)
    exact ⟨_, _, _, _, one _ rs _ _ x6 _ _ _ _ _ _ e⟩
  | some r q ih =>
    intro rs vs x6 x7 x8 x9 hc hz
    simp only [C.nd] at hz
    obtain ⟨y9, e⟩ := lw_leaf (cl := cl) (b := b) (x0 := x0) (x4 := x4) (x7 := x7) (x8 := x8) (x9 := x9) (x10 := x10) (X := X) (Y := Y) (kn := kn) (c := .some r q) (vs := vs) ⟨_, _, rfl, by simp⟩ hc hk hkl (by omega)
    exact ⟨_, _, _, _, one _ rs _ _ x6 _ _ _ _ _ _ e⟩
end
theorem c_lvalue {n : Nat} {c : C} {kn : List (C × Bool)} {h : Hd} (hn : 1 ≤ n) (hb : c.nd ≤ 1999) (hh : c.ht ≤ 390) (hk : ∀ p ∈ kn, p.1.ht ≤ 390) (hkl : kn.length ≤ 100000) : callN T n 22 [c.d, .lst (kn.map knD)] h = .ok (vD (v3 (kap kn) c)) h := by
  obtain ⟨m, rfl⟩ := lvl (k := 1) (n := n) (by omega)
  rw [call_at (F := ⟨2, 11, b__law_value⟩) rfl]
  generalize callN T m = cl
  have ea : ([c.d, .lst (kn.map knD)].map some ++ List.replicate (11 - 2) (none : Option D)) = [some c.d, some (.lst (kn.map knD)), none, none, none, none, none, none, none, none, none] := rfl
  rw [runFn_at (np := 2) (nn := 11) rfl ea]
  have hbd : b__law_value = sSeq (sSet 2 (mLst true aNil)) (sSeq (sSet 3 (mLst true (aCons (mVar 0) aNil))) (sSeq (sFor (iRng1 (mC (.int 2000))) (.nm 4) lvBody) (sSeq (sSet 5 (mLst true aNil)) (sSeq (sFor (iRevV (mVar 2)) (.nm 6) lwBody) (sRet (mOp dIx (mVar 5) (mC (.int 0)))))))) := rfl
  generalize hx : D.lst (kn.map knD) = x1
  have s1 : sSet 2 (mLst true aNil) cl [some c.d, some x1, none, none, none, none, none, none, none, none, none] h = .nx [some c.d, some x1, some (.ref h.length), none, none, none, none, none, none, none, none] (h ++ [.lst []]) := by simp
  have s2 : sSet 3 (mLst true (aCons (mVar 0) aNil)) cl [some c.d, some x1, some (.ref h.length), none, none, none, none, none, none, none, none] (h ++ [.lst []]) = .nx [some c.d, some x1, some (.ref h.length), some (.ref (h.length + 1)), none, none, none, none, none, none, none] (h ++ [.lst [], .lst [c.d]]) := by simp
  have hi : iRng1 (mC (.int 2000)) cl [some c.d, some x1, some (.ref h.length), some (.ref (h.length + 1)), none, none, none, none, none, none, none] (h ++ [.lst [], .lst [c.d]]) = .ok ⟨rngD 0 2000, none⟩ (h ++ [.lst [], .lst [c.d]]) := by
    have := dRng1_ok (j := 2000) (h ++ [.lst [], .lst [c.d]]) (by omega) (by omega)
    rw [iRng1_ev, mC_ev, bind_ok, this]
    rfl
  obtain ⟨x4, x6, W, ef⟩ := sFor_gen (b := lvBody) (g := .nm 4) (I := fun ds t h' => ∃ (acc ws : List C) (x4 x6 : Option D), t = [some c.d, some x1, some (.ref h.length), some (.ref (h.length + 1)), x4, none, x6, none, none, none, none] ∧ h' = h ++ [.lst (acc.map C.d), .lst (ws.map C.d)] ∧ acc ++ restP ws = c.pre ∧ ndA ws ≤ ds.length ∧ ndA ws + acc.length ≤ 1999)
    (O := fun x => ∃ (x4 x6 : Option D) (W : O), x = .nx [some c.d, some x1, some (.ref h.length), some (.ref (h.length + 1)), x4, none, x6, none, none, none, none] (h ++ [.lst (c.pre.map C.d), W])) hi
    (by
      rintro d ds t h' ⟨acc, ws, x4, x6, rfl, rfl, hf, hl, hk'⟩
      refine ⟨trivial, _, rfl, ?_⟩
      show Turn _ _ (lvBody cl [some c.d, some x1, some (.ref h.length), some (.ref (h.length + 1)), some d, none, x6, none, none, none, none] (h ++ [.lst (acc.map C.d), .lst (ws.map C.d)]))
      rcases List.eq_nil_or_concat ws with rfl | ⟨ws, w, rfl⟩
      · have hT := end_test (cl := cl) (t := [some c.d, some x1, some (.ref h.length), some (.ref (h.length + 1)), some d, none, x6, none, none, none, none]) (h := h ++ [.lst (acc.map C.d), .lst (([] : List C).map C.d)]) (i := 3) (K := h.length + 1) rfl (get2 h _ _)
        unfold lvBody
        rw [sSeq_ev, sIf_ev, hT, toS_ok, if_pos (by simp), sBreak_ev, seq_bk]
        have hf' : acc = c.pre := by rw [← hf]; simp [restP]
        exact .bk ⟨_, _, _, by rw [hf']⟩
      · rw [List.concat_eq_append] at *
        obtain ⟨ws', e1, e2, e3⟩ := lv_step (cl := cl) (b := h) (x0 := some c.d) (x1 := some x1) (x4 := some d) (x5 := none) (x6 := x6) (x7 := none) (x8 := none) (x9 := none) (x10 := none) (acc := acc) (ws := ws) (w := w) (by omega)
        rw [e1]
        exact .nx ⟨acc ++ [w], ws', _, _, rfl, rfl, e2.trans hf, by simp at hl; omega, by simp; omega⟩)
    (by
      rintro t h' ⟨acc, ws, x4, x6, rfl, rfl, hf, hl, hk'⟩
      have hw : ws = [] := by
        have := ndA_len ws
        simp at hl
        exact List.length_eq_zero_iff.mp (by omega)
      subst hw
      have hf' : acc = c.pre := by rw [← hf]; simp [restP]
      exact ⟨trivial, _, _, _, by rw [hf']⟩)
    ⟨[], [c], none, none, rfl, rfl, by simp [restP], by rw [rng_len]; simp [ndA]; omega, by simp [ndA]; omega⟩
  have s5 : sSet 5 (mLst true aNil) cl [some c.d, some x1, some (.ref h.length), some (.ref (h.length + 1)), x4, none, x6, none, none, none, none] (h ++ [.lst (c.pre.map C.d), W]) = .nx [some c.d, some x1, some (.ref h.length), some (.ref (h.length + 1)), x4, some (.ref (h.length + 2)), x6, none, none, none, none] (h ++ [.lst (c.pre.map C.d), W, .lst []]) := by simp
  have hr : iRevV (mVar 2) cl [some c.d, some x1, some (.ref h.length), some (.ref (h.length + 1)), x4, some (.ref (h.length + 2)), x6, none, none, none, none] (h ++ [.lst (c.pre.map C.d), W, .lst []]) = .ok ⟨(c.pre.map C.d).reverse, some (h.length, c.pre.map C.d)⟩ (h ++ [.lst (c.pre.map C.d), W, .lst []]) := by
    simp [dRev]
  subst hx
  obtain ⟨y6, y7, y8, y9, el⟩ := lw_all (cl := cl) (b := h) (x0 := some c.d) (x4 := x4) (x10 := none) (X := .lst (c.pre.map C.d)) (Y := W) (kn := kn) ⟨(c.pre.map C.d).reverse, some (h.length, c.pre.map C.d)⟩ hk hkl (fun Z => by unfold Src.ok; simp) c [] [] x6 none none none hh (by simp; omega)
  rw [hbd, sSeq_ev, s1, seq_nx, sSeq_ev, s2, seq_nx, sSeq_ev, ef, seq_nx, sSeq_ev, s5, seq_nx, sSeq_ev]
  have efor : sFor (iRevV (mVar 2)) (.nm 6) lwBody cl [some c.d, some (.lst (kn.map knD)), some (.ref h.length), some (.ref (h.length + 1)), x4, some (.ref (h.length + 2)), x6, none, none, none, none] (h ++ [.lst (c.pre.map C.d), W, .lst []]) = .nx [some c.d, some (.lst (kn.map knD)), some (.ref h.length), some (.ref (h.length + 1)), x4, some (.ref (h.length + 2)), y6, y7, y8, y9, none] (h ++ [.lst (c.pre.map C.d), W, .lst [vD (v3 (kap kn) c)]]) := by
    unfold sFor
    rw [hr, toS_ok]
    have e0 : (c.pre.map C.d).reverse = c.pre.reverse.map C.d ++ [] := by simp
    show forL _ (stepW cl) (c.pre.map C.d).reverse _ _ = _
    rw [e0]
    rw [e0] at el
    refine el.trans ?_
    unfold forL
    rw [if_pos (by unfold Src.ok; simp)]
    rfl
  rw [efor, seq_nx]
  have hd : dIx (.ref (h.length + 2)) (.int 0) (h ++ [.lst (c.pre.map C.d), W, .lst [vD (v3 (kap kn) c)]]) = .ok (vD (v3 (kap kn) c)) (h ++ [.lst (c.pre.map C.d), W, .lst [vD (v3 (kap kn) c)]]) := by
    simp [dIx, dIxS, D.dict?, D.see, ixI]
  simp only [sRet_ev, mOp_ev, mVar_ev, List.getElem?_cons_succ, List.getElem?_cons_zero, mC_ev, bind_ok, hd, toS_ok, fin_rt]
  exact fin1_app (plain_lo (vD_plain _))
end K24

namespace K24
open PySem L2 Ev
theorem c_isval {n : Nat} {v w : Option Bool} {h : Hd} (hn : 1 ≤ n) : callN T n 25 [vD v, vD w] h = .ok (.bl (decide (v = w))) h := by
  obtain ⟨m, rfl⟩ := lvl hn
  rw [call_at (F := ⟨2, 2, b__law_is_value⟩) rfl]
  rcases v with _ | (_ | _) <;> rcases w with _ | (_ | _) <;> simp [runFn, b__law_is_value, vD, dIsN, dIs, tyOf, isTy, Ty.n, dEq, D.see, cmpOk, D.plain, near, D.dep, fin1_same]
/-! ### the same, through and through -/
mutual
def D.gd : D → Bool
  | .tup xs => D.gdA xs
  | .str _ => true
  | .int _ => true
  | _ => false
def D.gdA : List D → Bool
  | [] => true
  | x :: xs => D.gd x && D.gdA xs
def D.cn : D → Nat
  | .tup xs => D.cnA xs + 1
  | _ => 1
def D.cnA : List D → Nat
  | [] => 0
  | x :: xs => D.cn x + D.cnA xs
end
theorem gdA_iff {xs : List D} : D.gdA xs = true ↔ ∀ x ∈ xs, D.gd x = true := by
  induction xs with
  | nil => simp [D.gdA]
  | cons x xs ih => simp [D.gdA, ih]
theorem cn_pos (x : D) : 1 ≤ D.cn x := by cases x <;> simp [D.cn]
theorem cnA_app (xs ys : List D) : D.cnA (xs ++ ys) = D.cnA xs + D.cnA ys := by
  induction xs with
  | nil => simp [D.cnA]
  | cons x xs ih => simp [D.cnA, ih]; omega
theorem cnA_len : ∀ xs : List D, xs.length ≤ D.cnA xs
  | [] => by simp
  | x :: xs => by
    have := cnA_len xs
    have := cn_pos x
    simp [D.cnA]; omega
abbrev prD (x : D) : D := .lst [x, x]
noncomputable abbrev smBody : MS := (sSeq (sIf (tCmp (mOp (dEq false) (mB gLen (aCons (mVar 2) aNil)) (mC (.int 0))))
  (sRet (mC (.bl true)))
  sNil)
  (sSeq (sSet 4 (mMt kPop (mVar 2) aNil))
  (sIf (tVal (mUn (dIs .tuple) (mOp dIx (mVar 4) (mC (.int 1)))))
  (sSeq (sIf (tOr (tNot (tVal (mUn (dIs .tuple) (mOp dIx (mVar 4) (mC (.int 0)))))) (tCmp (mOp (dEq true) (mB gLen (aCons (mOp dIx (mVar 4) (mC (.int 0))) aNil)) (mB gLen (aCons (mOp dIx (mVar 4) (mC (.int 1))) aNil)))))
  (sRet (mC (.bl false)))
  sNil)
  (sExpr (mMt kExtend (mVar 2) (aCons (mComp false (iRng1 (mB gLen (aCons (mOp dIx (mVar 4) (mC (.int 1))) aNil))) (.nm 5) [5] tYesM (mLst false (aCons (mOp dIx (mOp dIx (mVar 4) (mC (.int 0))) (mVar 5)) (aCons (mOp dIx (mOp dIx (mVar 4) (mC (.int 1))) (mVar 5)) aNil)))) aNil))))
  (sIf (tVal (mUn (dIs .str) (mOp dIx (mVar 4) (mC (.int 1)))))
  (sIf (tOr (tNot (tVal (mUn (dIs .str) (mOp dIx (mVar 4) (mC (.int 0)))))) (tCmp (mOp (dEq true) (mOp dIx (mVar 4) (mC (.int 0))) (mOp dIx (mVar 4) (mC (.int 1))))))
  (sRet (mC (.bl false)))
  sNil)
  (sIf (tOr (tNot (tVal (mUn (dIs .int) (mOp dIx (mVar 4) (mC (.int 0)))))) (tOr (tVal (mUn (dIs .bool) (mOp dIx (mVar 4) (mC (.int 0))))) (tCmp (mOp (dEq true) (mOp dIx (mVar 4) (mC (.int 0))) (mOp dIx (mVar 4) (mC (.int 1)))))))
  (sRet (mC (.bl false)))
  sNil)))))
theorem pr0 (x : D) (h : Hd) : dIx (prD x) (.int 0) h = .ok x h := by simp [dIx, dIxS, D.dict?, D.see, ixI]
theorem pr1 (x : D) (h : Hd) : dIx (prD x) (.int 1) h = .ok x h := by simp [dIx, dIxS, D.dict?, D.see, ixI]
theorem pairs_comp {cl : Calls} (xs : List D) (t : Tau) (h : Hd) (ht : t.length = 6) (h4 : t[4]? = some (some (prD (.tup xs)))) (src : Src) (hs : src.ok h) : compL src (stepC cl t (.nm 5) tYesM (mLst false (aCons (mOp dIx (mOp dIx (mVar 4) (mC (.int 0))) (mVar 5)) (aCons (mOp dIx (mOp dIx (mVar 4) (mC (.int 1))) (mVar 5)) aNil)))) (rngD 0 xs.length) h = .ok (xs.map prD) h := by
  rw [comp_pure hs (f := fun d => match d with | .int k => (xs[k.toNat]?).map prD | _ => none)]
  · congr 1
    rw [rngD_eq, List.filterMap_map]
    apply List.ext_getElem?
    intro i
    have : ∀ n, n ≤ xs.length → (List.range n).filterMap ((fun d => match d with | .int k => (xs[k.toNat]?).map prD | _ => none) ∘ fun (k : Nat) => D.int (k : Int)) = (xs.take n).map prD := by
      intro n
      induction n with
      | zero => intro _; rfl
      | succ n ih =>
        intro hn
        rw [List.range_succ, List.filterMap_append, ih (by omega)]
        have hx : xs[n]? = some xs[n] := List.getElem?_eq_getElem (by omega)
        rw [List.take_succ_eq_append_getElem (by omega), List.map_append]
        congr 1
        simp [hx]
    rw [this xs.length (Nat.le_refl _), List.take_length]
  · intro d hd
    rw [rngD_eq] at hd
    obtain ⟨k, hk, rfl⟩ := List.mem_map.mp hd
    have hk := List.mem_range.mp hk
    have hx : xs[k]? = some xs[k] := List.getElem?_eq_getElem hk
    have e5 : (t.set 5 (some (.int (k : Int))))[5]? = some (some (.int (k : Int))) := List.getElem?_set_self (by omega)
    have e4 : (t.set 5 (some (.int (k : Int))))[4]? = some (some (prD (.tup xs))) := by rw [List.getElem?_set_ne (by omega)]; exact h4
    have i0 := pr0 (.tup xs) h
    have i1 := pr1 (.tup xs) h
    have ik := dIx_tup h hx
    unfold stepC asg
    simp only [tYes_ev, bind_ok, if_true, mLst_ev, aCons_ev, mOp_ev, mVar_ev, mC_ev, e5, e4, i0, i1, ik, aNil_ev, freshF _ (show ([xs[k], xs[k]] : List D).length ≤ 16777216 by simp), Int.toNat_natCast, hx, Option.map_some]
    rfl
theorem see_atom (s : List Nat) (h : Hd) : dEq true (.str s) (.str s) h = .ok (.bl false) h := by
  simp [dEq, D.see, cmpOk, D.plain, near, D.dep]
theorem see_int (i : Int) (h : Hd) : dEq true (.int i) (.int i) h = .ok (.bl false) h := by
  simp [dEq, D.see, cmpOk, D.plain, near, D.dep]
theorem sm_step {cl : Calls} {b : Hd} {x0 x1 x3 x4 x5 : Option D} {ws : List D} {w : D} (hg : D.gd w = true) (hz : D.cnA (ws ++ [w]) ≤ 1000000) :
    ∃ ws', smBody cl [x0, x1, some (.ref b.length), x3, x4, x5] (b ++ [.lst ((ws ++ [w]).map prD)]) = .nx [x0, x1, some (.ref b.length), x3, some (prD w), x5] (b ++ [.lst (ws'.map prD)]) ∧ D.cnA ws' + 1 = D.cnA (ws ++ [w]) ∧ ∀ x ∈ ws', x ∈ ws ∨ D.gd x = true := by
  have hl := cnA_len (ws ++ [w])
  have hT := end_test (cl := cl) (t := [x0, x1, some (.ref b.length), x3, x4, x5]) (h := b ++ [.lst ((ws ++ [w]).map prD)]) (i := 2) (K := b.length) rfl (get_last b _)
  have hne : decide ((ws ++ [w]).map prD = []) = false := by simp
  rw [hne] at hT
  have p := pop_at (c := cl) (t := [x0, x1, some (.ref b.length), x3, x4, x5]) (i := 2) (L := b.length) (ys := ws.map prD) (y := prD w) rfl (get_last b _)
  rw [set_last] at p
  have s1 : sSet 4 (mMt kPop (mVar 2) aNil) cl [x0, x1, some (.ref b.length), x3, x4, x5] (b ++ [.lst ((ws ++ [w]).map prD)]) = .nx [x0, x1, some (.ref b.length), x3, some (prD w), x5] (b ++ [.lst (ws.map prD)]) := by
    rw [List.map_append, List.map_singleton, sSet_ev, p, toS_ok]; rfl
  unfold smBody
  rw [sSeq_ev, sIf_ev, hT, toS_ok, if_neg (by decide), sNil_ev, seq_nx, sSeq_ev, s1, seq_nx]
  cases w with
  | tup xs =>
    have hxs : xs.length ≤ 1000000 := by
      have := cnA_len xs
      rw [cnA_app] at hz
      simp [D.cnA, D.cn] at hz
      omega
    refine ⟨ws ++ xs, ?_, by rw [cnA_app, cnA_app]; simp [D.cnA, D.cn]; omega, fun x hx => ?_⟩
    · have hl2 : ws.length + xs.length ≤ 2000000 := by simp at hl; omega
      generalize hh : b ++ [O.lst (ws.map prD)] = h1
      have g1 : h1[b.length]? = some (.lst (ws.map prD)) := by rw [← hh, get_last]
      have k1 : gLen [.tup xs] h1 = .ok (.int (xs.length : Nat)) h1 := by simp [gLen, D.dict?, D.see]
      have hi : iRng1 (mB gLen (aCons (mOp dIx (mVar 4) (mC (.int 1))) aNil)) cl [x0, x1, some (.ref b.length), x3, some (prD (.tup xs)), x5] h1 = .ok ⟨rngD 0 xs.length, none⟩ h1 := by
        have e2 : mB gLen (aCons (mOp dIx (mVar 4) (mC (.int 1))) aNil) cl [x0, x1, some (.ref b.length), x3, some (prD (.tup xs)), x5] h1 = .ok (.int (xs.length : Nat)) h1 := by
          simp only [mB_ev, aCons_ev, mOp_ev, mVar_ev, List.getElem?_cons_succ, List.getElem?_cons_zero, mC_ev, bind_ok, pr1, aNil_ev, k1]
        rw [iRng1_ev, e2, bind_ok, dRng1_ok _ (by omega) (by omega)]
        rfl
      have hc : mComp false (iRng1 (mB gLen (aCons (mOp dIx (mVar 4) (mC (.int 1))) aNil))) (.nm 5) [5] tYesM (mLst false (aCons (mOp dIx (mOp dIx (mVar 4) (mC (.int 0))) (mVar 5)) (aCons (mOp dIx (mOp dIx (mVar 4) (mC (.int 1))) (mVar 5)) aNil))) cl [x0, x1, some (.ref b.length), x3, some (prD (.tup xs)), x5] h1 = .ok (.lst (xs.map prD)) h1 := by
        rw [mComp, hi, bind_ok]
        have := pairs_comp (cl := cl) xs (wipeT [x0, x1, some (.ref b.length), x3, some (prD (.tup xs)), x5] [5]) h1 rfl rfl ⟨rngD 0 xs.length, none⟩ trivial
        rw [this, bind_ok, freshF _ (by rw [List.length_map]; omega)]
      have hx : sExpr (mMt kExtend (mVar 2) (aCons (mComp false (iRng1 (mB gLen (aCons (mOp dIx (mVar 4) (mC (.int 1))) aNil))) (.nm 5) [5] tYesM (mLst false (aCons (mOp dIx (mOp dIx (mVar 4) (mC (.int 0))) (mVar 5)) (aCons (mOp dIx (mOp dIx (mVar 4) (mC (.int 1))) (mVar 5)) aNil)))) aNil)) cl [x0, x1, some (.ref b.length), x3, some (prD (.tup xs)), x5] h1 = .nx [x0, x1, some (.ref b.length), x3, some (prD (.tup xs)), x5] (b ++ [.lst ((ws ++ xs).map prD)]) := by
        have hz1 : ws.length + xs.length ≤ sizeLine := by rw [sizeLine_eq]; omega
        have hk : kindOf (.ref b.length) h1 = some .list := by simp [kindOf, g1]
        rw [sExpr_ev, mMt_ev]
        simp only [mVar_ev, List.getElem?_cons_succ, List.getElem?_cons_zero, bind_ok, hk]
        have ek : kExtend .list = some fExtend := rfl
        simp only [ek, aCons_ev, hc, bind_ok, aNil_ev]
        have : fExtend (.ref b.length) [.lst (xs.map prD)] h1 = .ok .non (h1.set b.length (.lst (ws.map prD ++ xs.map prD))) := by
          simp [fExtend, D.open?, g1, D.items?, hz1, D.see]
        rw [this, toS_ok, ← hh, set_last, List.map_append]
      have t1 : tVal (mUn (dIs .tuple) (mOp dIx (mVar 4) (mC (.int 1)))) cl [x0, x1, some (.ref b.length), x3, some (prD (.tup xs)), x5] h1 = .ok true h1 := by
        simp only [tVal_ev, mUn_ev, mOp_ev, mVar_ev, List.getElem?_cons_succ, List.getElem?_cons_zero, mC_ev, bind_ok, pr1]
        rfl
      have t2 : sIf (tOr (tNot (tVal (mUn (dIs .tuple) (mOp dIx (mVar 4) (mC (.int 0)))))) (tCmp (mOp (dEq true) (mB gLen (aCons (mOp dIx (mVar 4) (mC (.int 0))) aNil)) (mB gLen (aCons (mOp dIx (mVar 4) (mC (.int 1))) aNil))))) (sRet (mC (.bl false))) sNil cl [x0, x1, some (.ref b.length), x3, some (prD (.tup xs)), x5] h1 = .nx [x0, x1, some (.ref b.length), x3, some (prD (.tup xs)), x5] h1 := by
        have q1 : dIs .tuple (.tup xs) h1 = .ok (.bl true) h1 := rfl
        simp only [sIf_ev, tOr_ev, tNot_ev, tVal_ev, mUn_ev, mOp_ev, mVar_ev, List.getElem?_cons_succ, List.getElem?_cons_zero, mC_ev, bind_ok, pr0, pr1, q1, dTrue_bl, tCmp_ev, mB_ev, aCons_ev, aNil_ev, k1, see_int, dBl_ev, Bool.not_true, Bool.false_eq_true, if_false, toS_ok, sNil_ev]
      rw [sIf_ev, t1, toS_ok, if_pos rfl, sSeq_ev, t2, seq_nx, hx]
    · rcases List.mem_append.mp hx with hx | hx
      · exact .inl hx
      · exact .inr (gdA_iff.mp (by simpa [D.gd] using hg) x hx)
  | str s =>
    refine ⟨ws, ?_, by rw [cnA_app]; simp [D.cnA, D.cn], fun x hx => .inl hx⟩
    generalize b ++ [O.lst (ws.map prD)] = h1
    simp [pr0, pr1, dIs, tyOf, isTy, Ty.n, see_atom]
  | int i =>
    refine ⟨ws, ?_, by rw [cnA_app]; simp [D.cnA, D.cn], fun x hx => .inl hx⟩
    generalize b ++ [O.lst (ws.map prD)] = h1
    simp [pr0, pr1, dIs, tyOf, isTy, Ty.n, see_int]
  | _ => simp [D.gd] at hg
theorem c_same {n : Nat} {x : D} {h : Hd} (hn : 1 ≤ n) (hg : D.gd x = true) (hc : D.cn x ≤ 1998) : callN T n 23 [x, x] h = .ok (.bl true) h := by
  obtain ⟨m, rfl⟩ := lvl hn
  rw [call_at (F := ⟨2, 6, b__law_is_same⟩) rfl]
  generalize callN T m = cl
  have ea : ([x, x].map some ++ List.replicate (6 - 2) (none : Option D)) = [some x, some x, none, none, none, none] := rfl
  rw [runFn_at (np := 2) (nn := 6) rfl ea]
  have hbd : b__law_is_same = sSeq (sSet 2 (mLst true (aCons (mLst false (aCons (mVar 0) (aCons (mVar 1) aNil))) aNil))) (sSeq (sFor (iRng1 (mC (.int 2000))) (.nm 3) smBody) (sRet (mC (.bl false)))) := rfl
  have s1 : sSet 2 (mLst true (aCons (mLst false (aCons (mVar 0) (aCons (mVar 1) aNil))) aNil)) cl [some x, some x, none, none, none, none] h = .nx [some x, some x, some (.ref h.length), none, none, none] (h ++ [.lst [prD x]]) := by simp
  have hi : iRng1 (mC (.int 2000)) cl [some x, some x, some (.ref h.length), none, none, none] (h ++ [.lst [prD x]]) = .ok ⟨rngD 0 2000, none⟩ (h ++ [.lst [prD x]]) := by
    have := dRng1_ok (j := 2000) (h ++ [.lst [prD x]]) (by omega) (by omega)
    rw [iRng1_ev, mC_ev, bind_ok, this]
    rfl
  obtain ⟨l, ef⟩ := sFor_gen (b := smBody) (g := .nm 3) (I := fun ds t h' => ∃ (ws : List D) (x3 x4 x5 : Option D), t = [some x, some x, some (.ref h.length), x3, x4, x5] ∧ h' = h ++ [.lst (ws.map prD)] ∧ D.cnA ws + 1 ≤ ds.length ∧ D.cnA ws ≤ 1998 ∧ ∀ y ∈ ws, D.gd y = true)
    (O := fun r => ∃ l, r = .rt (.bl true) (h ++ l)) hi
    (by
      rintro d ds t h' ⟨ws, x3, x4, x5, rfl, rfl, hl, hk, hw⟩
      refine ⟨trivial, _, rfl, ?_⟩
      show Turn _ _ (smBody cl [some x, some x, some (.ref h.length), some d, x4, x5] (h ++ [.lst (ws.map prD)]))
      rcases List.eq_nil_or_concat ws with rfl | ⟨ws, w, rfl⟩
      · have hT := end_test (cl := cl) (t := [some x, some x, some (.ref h.length), some d, x4, x5]) (h := h ++ [.lst (([] : List D).map prD)]) (i := 2) (K := h.length) rfl (get_last h _)
        unfold smBody
        rw [sSeq_ev, sIf_ev, hT, toS_ok, if_pos (by simp), sRet_ev, mC_ev, toS_ok, seq_rt]
        exact .rt ⟨_, rfl⟩
      · rw [List.concat_eq_append] at *
        obtain ⟨ws', e1, e2, e3⟩ := sm_step (cl := cl) (b := h) (x0 := some x) (x1 := some x) (x3 := some d) (x4 := x4) (x5 := x5) (ws := ws) (w := w) (hw w (by simp)) (by omega)
        rw [e1]
        exact .nx ⟨ws', _, _, _, rfl, rfl, by simp at hl; omega, by omega, fun y hy => (e3 y hy).elim (fun q => hw y (by simp [q])) id⟩)
    (by
      rintro t h' ⟨ws, x3, x4, x5, rfl, rfl, hl, hk, hw⟩
      simp at hl)
    ⟨[x], none, none, none, rfl, rfl, by rw [rng_len]; simp [D.cnA]; omega, by simp [D.cnA]; omega, by simpa using hg⟩
  rw [hbd, sSeq_ev, s1, seq_nx, sSeq_ev, ef, seq_rt, fin_rt]
  exact fin1_app (by simp)
end K24

namespace K24
open PySem L2 Ev
/-! ### drawing -/
/-- a deck stands at i -/
def Dk (h : Hd) (i : Nat) : Prop := ∃ a b : Int, h[i]? = some (.lst [.int a, .int b])
theorem Dk.lt {h : Hd} {i : Nat} (x : Dk h i) : i < h.length := by
  obtain ⟨a, b, e⟩ := x
  exact (List.getElem?_eq_some_iff.mp e).1
theorem Dk.set {h : Hd} {i j : Nat} {a b : Int} (x : Dk h i) : Dk (h.set j (.lst [.int a, .int b])) i := by
  obtain ⟨a', b', e⟩ := id x
  by_cases hj : i = j
  · subst hj
    exact ⟨a, b, by rw [List.getElem?_set_self x.lt]⟩
  · exact ⟨a', b', by rw [List.getElem?_set_ne (Ne.symm hj)]; exact e⟩
theorem c_draw {n : Nat} {h : Hd} {i : Nat} {many : Int} (hn : 1 ≤ n) (hd : Dk h i) (h1 : 0 < many) (h2 : many < 18446744073709551616) : ∃ r a b : Int, callN T n 12 [.ref i, .int many] h = .ok (.int r) (h.set i (.lst [.int a, .int b])) ∧ 0 ≤ r ∧ r < many := by
  obtain ⟨m, rfl⟩ := lvl hn
  rw [call_at (F := ⟨2, 3, b__law_draw⟩) rfl]
  obtain ⟨a, b, e⟩ := id hd
  have hl := hd.lt
  have cl : ∀ x y : Int, Clean h (h.set i (.lst [.int x, .int y])) := fun x y j hj => by
    by_cases q : j = i
    · subst q
      exact .inr ⟨.lst [.int x, .int y], by rw [List.getElem?_set_self hl], by simp [O.lo]⟩
    · exact .inl (by rw [List.getElem?_set_ne (Ne.symm q)])
  have fin2 : ∀ (r x y : Int), fin1 h (.int r) (h.set i (.lst [.int x, .int y])) = .ok (.int r) (h.set i (.lst [.int x, .int y])) := fun r x y => by
    unfold fin1
    rw [if_pos ⟨by simp, cl x y⟩, List.take_of_length_le (by simp)]
  have q1 := Int.emod_nonneg a (show many ≠ 0 by omega)
  have q2 := Int.emod_lt_of_pos a h1
  by_cases hb : b < 0
  · refine ⟨a % many, a / many, b, ?_, q1, q2⟩
    simp [runFn, b__law_draw, dIx, dIxS, D.dict?, D.see, e, ixI, dCmp, hb, gInt, dMod, h1, dDiv, h2, dSet, fin2]
  · obtain ⟨x, hx⟩ : ∃ x : Int, x = (a * 48271 + (b + 1) * 69621 + 12345) % 2147483647 := ⟨_, rfl⟩
    have p1 := Int.emod_nonneg (x / 7) (show many ≠ 0 by omega)
    have p2 := Int.emod_lt_of_pos (x / 7) h1
    refine ⟨(x / 7) % many, x, b + 1, ?_, p1, p2⟩
    have g1 : (h.set i (.lst [.int a, .int (b + 1)]))[i]? = some (.lst [.int a, .int (b + 1)]) := List.getElem?_set_self hl
    have g2 : (h.set i (.lst [.int x, .int (b + 1)]))[i]? = some (.lst [.int x, .int (b + 1)]) := List.getElem?_set_self hl
    simp [runFn, b__law_draw, dIx, dIxS, D.dict?, D.see, e, ixI, dCmp, hb, gInt, dMod, h1, dDiv, h2, dSet, fin2, dAdd, dMul, g1, g2, ← hx]

theorem pow18 (h : Hd) : dPow (.int 10) (.int 18) h = .ok (.int 1000000000000000000) h := by simp [dPow]
theorem fin1_ref {h : Hd} {x : O} : fin1 h (.ref h.length) (h ++ [x]) = .ok (.ref h.length) (h ++ [x]) := by
  unfold fin1
  rw [if_neg (fun z => by have := z.1; rw [lo_ref] at this; omega)]
theorem c_deck {n : Nat} {h : Hd} {cell : Int} (hn : 1 ≤ n) : ∃ a b : Int, callN T n 10 [.int cell] h = .ok (.ref h.length) (h ++ [.lst [.int a, .int b]]) := by
  obtain ⟨m, rfl⟩ := lvl hn
  rw [call_at (F := ⟨1, 1, b__law_deck⟩) rfl]
  by_cases hc : (1000000000000000000 : Int) ≤ cell
  · exact ⟨cell - 1000000000000000000, -1, by simp [runFn, b__law_deck, pow18, dCmp, hc, dSub, dNeg, fin1_ref]⟩
  · exact ⟨(cell % 2147483647 * 69621 + 1009) % 2147483647, 0, by simp [runFn, b__law_deck, pow18, dCmp, hc, gInt, dMod, dMul, dAdd, fin1_ref]⟩
/-! ### 63 decks -/
def isInts (xs : List D) : Prop := ∃ ns : List Int, xs = ns.map D.int
theorem comp_int {src : Src} {c : Calls} {t : Tau} {h : Hd} (ok : src.ok h) (ht : 3 < t.length) : ∀ ns : List Int, compL src (stepC c t (.nm 3) tYesM (mB gInt (aCons (mVar 3) aNil))) (ns.map D.int) h = .ok (ns.map D.int) h := fun ns => by
  rw [comp_pure ok (f := fun d => some d)]
  · simp
  · intro d hd
    obtain ⟨i, _, rfl⟩ := List.mem_map.mp hd
    simp [stepC, asg, noX, gInt, List.getElem?_set_self, ht]
/-- making the decks -/
theorem comp_decks {n : Nat} (hn : 1 ≤ n) {src : Src} {t : Tau} (ht : 3 < t.length) (h0 : Hd) (hok : ∀ l : Hd, src.ok (h0 ++ l)) : ∀ (ns : List Int) (l : Hd), (∀ o ∈ l, ∃ a b : Int, o = .lst [.int a, .int b]) →
    ∃ l' : Hd, compL src (stepC (callN T n) t (.nm 3) tYesM (mCall 10 (aCons (mVar 3) aNil))) (ns.map D.int) (h0 ++ l) = .ok ((List.range' (h0.length + l.length) ns.length).map D.ref) (h0 ++ l') ∧ l'.length = l.length + ns.length ∧ ∀ o ∈ l', ∃ a b : Int, o = .lst [.int a, .int b] := by
  intro ns
  induction ns with
  | nil =>
    intro l hl
    refine ⟨l, ?_, rfl, hl⟩
    simp only [List.map_nil]
    unfold compL
    rw [if_pos (hok l)]
    rfl
  | cons i ns ih =>
    intro l hl
    obtain ⟨a, b, e⟩ := c_deck (n := n) (h := h0 ++ l) (cell := i) hn
    obtain ⟨l', e1, e2, e3⟩ := ih (l ++ [.lst [.int a, .int b]]) (fun o m => by
      rcases List.mem_append.mp m with m | m
      · exact hl o m
      · exact ⟨a, b, List.mem_singleton.mp m⟩)
    refine ⟨l', ?_, by simp at e2 ⊢; omega, e3⟩
    rw [List.map_cons]
    unfold compL
    rw [if_pos (hok l)]
    have est : stepC (callN T n) t (.nm 3) tYesM (mCall 10 (aCons (mVar 3) aNil)) (.int i) (h0 ++ l) = .ok (some (.ref (h0 ++ l).length)) ((h0 ++ l) ++ [.lst [.int a, .int b]]) := by
      simp [stepC, asg, noX, List.getElem?_set_self, ht, e]
    rw [est, bind_ok, List.append_assoc, e1, bind_ok]
    simp [List.range'_succ, Nat.add_assoc]
theorem dMul_r {m : Bool} {i j : Int} {h : Hd} (h1 : -1000000000 < j) (h2 : j < 1000000000) : dMul m (.int i) (.int j) h = .ok (.int (i * j)) h := by
  have e1 : -18446744073709551616 < j := by omega
  have e2 : j < 18446744073709551616 := by omega
  simp [dMul, e1, e2]
abbrev fBody : MS := (sSeq (sSet 2 (mOp dMod (mB gInt (aCons (mOp (dAdd false) (mOp (dAdd false) (mOp (dMul false) (mVar 2) (mC (.int 48271))) (mOp (dMul false) (mVar 5) (mC (.int 69621)))) (mC (.int 5))) aNil)) (mC (.int 2147483647))))
  (sExpr (mMt kAppend (mVar 1) (aCons (mVar 2) aNil))))
def stepF (c : Calls) (d : D) (t : Tau) (h : Hd) : SR := match asg (.nm 5) d t with
  | some t' => fBody c t' h
  | none => .stuck
theorem stepF_ev {c : Calls} {x0 x3 x4 x5 : Option D} {s z y : Int} {xs : List D} (hw : xs.length < sizeLine) (hy : y = (s * 48271 + z * 69621 + 5) % 2147483647) :
    stepF c (.int z) [x0, some (.ref 0), some (.int s), x3, x4, x5] [.lst xs] = .nx [x0, some (.ref 0), some (.int y), x3, x4, some (.int z)] [.lst (xs ++ [.int y])] := by
  simp [stepF, asg, dMul_r, dAdd, gInt, dMod, kindOf, kAppend, fAppend, D.open?, hw, ← hy]
theorem fill_loop {c : Calls} {src : Src} (hs : src.g = none) : ∀ (n s0 : Nat) (ns : List Int) (x0 : Option D) (s : Int) (x3 x4 x5 : Option D), ns.length + n ≤ 1000 →
    ∃ (s' : Int) (x5' : Option D) (ns' : List Int), forL src (stepF c) ((List.range' s0 n).map fun (k : Nat) => D.int (k : Int)) [x0, some (.ref 0), some (.int s), x3, x4, x5] [.lst (ns.map D.int)] = .nx [x0, some (.ref 0), some (.int s'), x3, x4, x5'] [.lst (ns'.map D.int)] ∧ ns'.length = ns.length + n := by
  have ok : ∀ h, src.ok h := fun h => by unfold Src.ok; rw [hs]; trivial
  intro n
  induction n with
  | zero =>
    intro s0 ns x0 s x3 x4 x5 hl
    refine ⟨s, x5, ns, ?_, rfl⟩
    rw [List.range'_zero, List.map_nil]
    unfold forL
    rw [if_pos (ok _)]
  | succ n ih =>
    intro s0 ns x0 s x3 x4 x5 hl
    obtain ⟨y, hy⟩ : ∃ y : Int, y = (s * 48271 + (s0 : Int) * 69621 + 5) % 2147483647 := ⟨_, rfl⟩
    obtain ⟨s', x5', ns', e, e2⟩ := ih (s0 + 1) (ns ++ [y]) x0 y x3 x4 (some (.int s0)) (by simp; omega)
    refine ⟨s', x5', ns', ?_, by simp at e2; omega⟩
    rw [List.range'_succ, List.map_cons]
    unfold forL
    have hw : (ns.map D.int).length < sizeLine := by rw [sizeLine_eq, List.length_map]; omega
    rw [List.map_append, List.map_singleton] at e
    rw [if_pos (ok _), stepF_ev hw hy, turn_nx, e]
def stepS (c : Calls) (d : D) (t : Tau) (h : Hd) : SR := match asg (.nm 3) d t with
  | some t' => sSet 2 (mOp dMod (mB gInt (aCons (mOp (dAdd false) (mOp (dAdd false) (mOp (dMul false) (mVar 2) (mC (.int 48271))) (mOp dMod (mB gInt (aCons (mVar 3) aNil)) (mC (.int 1000003)))) (mC (.int 11))) aNil)) (mC (.int 2147483647))) c t' h
  | none => .stuck
theorem seed_all {c : Calls} {src : Src} {h : Hd} (ok : src.ok h) : ∀ (ns : List Int) (x0 x1 : Option D) (s : Int) (x3 x4 x5 : Option D),
    ∃ (s' : Int) (x3' : Option D), forL src (stepS c) (ns.map D.int) [x0, x1, some (.int s), x3, x4, x5] h = .nx [x0, x1, some (.int s'), x3', x4, x5] h := by
  intro ns
  induction ns with
  | nil =>
    intro x0 x1 s x3 x4 x5
    refine ⟨s, x3, ?_⟩
    rw [List.map_nil]
    unfold forL
    rw [if_pos ok]
  | cons i ns ih =>
    intro x0 x1 s x3 x4 x5
    obtain ⟨s1, hs1⟩ : ∃ y : Int, y = (s * 48271 + i % 1000003 + 11) % 2147483647 := ⟨_, rfl⟩
    have e1 : stepS c (.int i) [x0, x1, some (.int s), x3, x4, x5] h = .nx [x0, x1, some (.int s1), some (.int i), x4, x5] h := by
      simp [stepS, asg, dMul_r, dAdd, gInt, dMod, ← hs1]
    obtain ⟨s2, x3', e2⟩ := ih x0 x1 s1 (some (.int i)) x4 x5
    refine ⟨s2, x3', ?_⟩
    rw [List.map_cons]
    unfold forL
    rw [if_pos ok, e1, turn_nx, e2]
theorem cut63 {xs : List D} (h : Hd) (hl : xs.length ≤ 63) : dCut false (.scr xs) none (some 63) h = .ok (.lst xs) h := by
  have e : cutL xs none (some 63) = xs := by
    unfold cutL
    have e1 : cutI xs.length 0 none = 0 := rfl
    have e2 : cutI xs.length xs.length (some 63) = xs.length := by
      simp [cutI]
      omega
    rw [e1, e2, List.drop_zero, Nat.sub_zero, List.take_length]
  show fresh false (cutL xs none (some 63)) h = _
  rw [e, freshF _ (by omega)]
theorem c_decks {n : Nat} (hn : 2 ≤ n) (ns : List Int) (hl : ns.length ≤ 63) : ∃ h' : Hd, callN T n 11 [.scr (ns.map D.int)] [] = .ok (.lst ((List.range' 1 63).map D.ref)) h' ∧ h'.length = 64 ∧ ∀ i, 1 ≤ i → i ≤ 63 → Dk h' i := by
  obtain ⟨m, rfl⟩ := lvl hn
  rw [call_at (F := ⟨1, 6, b__law_decks⟩) rfl]
  generalize hc : callN T (m + 1) = c
  have s1 : sSet 1 (mComp true (iVal (mCut false (mVar 0) pNo (pYes (mC (.int 63))))) (.nm 3) [3] tYesM (mB gInt (aCons (mVar 3) aNil))) c [some (.scr (ns.map D.int)), none, none, none, none, none] [] = .nx [some (.scr (ns.map D.int)), some (.ref 0), none, none, none, none] [.lst (ns.map D.int)] := by
    have e1 := cut63 (xs := ns.map D.int) [] (by simpa using hl)
    have e2 := comp_int (src := ⟨ns.map D.int, none⟩) (c := c) (t := wipeT [some (.scr (ns.map D.int)), none, none, none, none, none] [3]) (h := []) trivial (by simp [wipeT]) ns
    simp [mComp, e1, dIter, e2, show ns.length ≤ 16777216 by omega]
  have hb : b__law_decks = sSeq (sSet 1 (mComp true (iVal (mCut false (mVar 0) pNo (pYes (mC (.int 63))))) (.nm 3) [3] tYesM (mB gInt (aCons (mVar 3) aNil)))) (sSeq (sSet 2 (mC (.int 7))) (sSeq (sFor (iVal (mVar 1)) (.nm 3) (sSet 2 (mOp dMod (mB gInt (aCons (mOp (dAdd false) (mOp (dAdd false) (mOp (dMul false) (mVar 2) (mC (.int 48271))) (mOp dMod (mB gInt (aCons (mVar 3) aNil)) (mC (.int 1000003)))) (mC (.int 11))) aNil)) (mC (.int 2147483647)))))
    (sSeq (sSet 4 (mOp dSub (mC (.int 63)) (mB gLen (aCons (mVar 1) aNil)))) (sSeq (sFor (iRng1 (mVar 4)) (.nm 5) fBody) (sRet (mComp false (iVal (mVar 1)) (.nm 3) [3] tYesM (mCall 10 (aCons (mVar 3) aNil)))))))) := rfl
  obtain ⟨sd, x3, e3⟩ := seed_all (c := c) (src := ⟨ns.map D.int, some (0, ns.map D.int)⟩) (h := [.lst (ns.map D.int)]) rfl ns (some (.scr (ns.map D.int))) (some (.ref 0)) 7 none none none
  have s3 : sFor (iVal (mVar 1)) (.nm 3) (sSet 2 (mOp dMod (mB gInt (aCons (mOp (dAdd false) (mOp (dAdd false) (mOp (dMul false) (mVar 2) (mC (.int 48271))) (mOp dMod (mB gInt (aCons (mVar 3) aNil)) (mC (.int 1000003)))) (mC (.int 11))) aNil)) (mC (.int 2147483647)))) c [some (.scr (ns.map D.int)), some (.ref 0), some (.int 7), none, none, none] [.lst (ns.map D.int)] = .nx [some (.scr (ns.map D.int)), some (.ref 0), some (.int sd), x3, none, none] [.lst (ns.map D.int)] := by
    rw [← e3]
    rfl
  obtain ⟨k, hk⟩ : ∃ k, k = 63 - ns.length := ⟨_, rfl⟩
  obtain ⟨sd2, x5, ns', e5, hl'⟩ := fill_loop (c := c) (src := ⟨rngD 0 k, none⟩) rfl k 0 ns (some (.scr (ns.map D.int))) sd x3 (some (.int ((63 : Int) - ns.length))) none (by omega)
  have s5 : sFor (iRng1 (mVar 4)) (.nm 5) fBody c [some (.scr (ns.map D.int)), some (.ref 0), some (.int sd), x3, some (.int ((63 : Int) - ns.length)), none] [.lst (ns.map D.int)] = .nx [some (.scr (ns.map D.int)), some (.ref 0), some (.int sd2), x3, some (.int ((63 : Int) - ns.length)), x5] [.lst (ns'.map D.int)] := by
    have er : dRng1 (.int ((63 : Int) - ns.length)) [.lst (ns.map D.int)] = .ok ⟨rngD 0 k, none⟩ [.lst (ns.map D.int)] := by
      rw [dRng1_ok _ (by omega) (by omega), show ((63 : Int) - ns.length).toNat = k by omega]
    have ei : iRng1 (mVar 4) c [some (.scr (ns.map D.int)), some (.ref 0), some (.int sd), x3, some (.int ((63 : Int) - ns.length)), none] [.lst (ns.map D.int)] = .ok ⟨rngD 0 k, none⟩ [.lst (ns.map D.int)] := er
    have eq : rngD 0 k = (List.range' 0 k).map fun (k : Nat) => D.int (k : Int) := by
      rw [rngD, List.range_eq_range']
      simp
    unfold sFor
    rw [ei, toS_ok, ← e5, ← eq]
    rfl
  have hn63 : ns'.length = 63 := by omega
  obtain ⟨l', e6, e7, e8⟩ := comp_decks (n := m + 1) (by omega) (src := ⟨ns'.map D.int, some (0, ns'.map D.int)⟩) (t := wipeT [some (.scr (ns.map D.int)), some (.ref 0), some (.int sd2), x3, some (.int ((63 : Int) - ns.length)), x5] [3]) (by simp [wipeT]) [.lst (ns'.map D.int)] (fun l => rfl) ns' [] (fun o m => by simp at m)
  rw [hc, hn63] at e6
  have s6 : sRet (mComp false (iVal (mVar 1)) (.nm 3) [3] tYesM (mCall 10 (aCons (mVar 3) aNil))) c [some (.scr (ns.map D.int)), some (.ref 0), some (.int sd2), x3, some (.int ((63 : Int) - ns.length)), x5] [.lst (ns'.map D.int)] = .rt (.lst ((List.range' 1 63).map D.ref)) ([.lst (ns'.map D.int)] ++ l') := by
    have e9 : ((List.range' 1 63).map D.ref).length ≤ 16777216 := by rw [List.length_map, List.length_range']; omega
    simp only [List.append_nil, List.length_singleton, List.length_nil, Nat.add_zero] at e6
    simp only [sRet_ev, mComp, iVal_ev, mVar_ev, List.getElem?_cons_succ, List.getElem?_cons_zero, bind_ok, dIter]
    rw [e6, bind_ok, freshF _ e9]
    rfl
  rw [runFn_go rfl]
  have e0 : (FnD.mk 1 6 b__law_decks).body c ([.scr (ns.map D.int)].map some ++ List.replicate ((FnD.mk 1 6 b__law_decks).nn - (FnD.mk 1 6 b__law_decks).np) none) [] = b__law_decks c [some (.scr (ns.map D.int)), none, none, none, none, none] [] := rfl
  have s4 : sSet 4 (mOp dSub (mC (.int 63)) (mB gLen (aCons (mVar 1) aNil))) c [some (.scr (ns.map D.int)), some (.ref 0), some (.int sd), x3, none, none] [.lst (ns.map D.int)] = .nx [some (.scr (ns.map D.int)), some (.ref 0), some (.int sd), x3, some (.int ((63 : Int) - ns.length)), none] [.lst (ns.map D.int)] := by
    simp [gLen, D.dict?, D.see, dSub]
  have s2 : sSet 2 (mC (.int 7)) c [some (.scr (ns.map D.int)), some (.ref 0), none, none, none, none] [.lst (ns.map D.int)] = .nx [some (.scr (ns.map D.int)), some (.ref 0), some (.int 7), none, none, none] [.lst (ns.map D.int)] := rfl
  rw [e0, hb, sSeq_ev, s1, seq_nx, sSeq_ev, s2, seq_nx, sSeq_ev, s3, seq_nx, sSeq_ev, s4, seq_nx, sSeq_ev, s5, seq_nx, s6, fin_rt]
  refine ⟨[.lst (ns'.map D.int)] ++ l', ?_, ?_, ?_⟩
  · unfold fin1
    rw [if_neg (fun z => ?_)]
    have := z.1
    rw [lo_lst, show (List.range' 1 63).map D.ref = D.ref 1 :: (List.range' 2 62).map D.ref from rfl, loA_cons, lo_ref] at this
    exact absurd this.1 (by simp)
  · simp at e7 ⊢
    omega
  · intro i h1 h2
    have hi : i - 1 < l'.length := by simp at e7; omega
    obtain ⟨a, b, e⟩ := e8 _ (List.getElem_mem hi)
    refine ⟨a, b, ?_⟩
    rw [show i = (i - 1) + 1 by omega]
    show (O.lst (ns'.map D.int) :: l')[i - 1 + 1]? = _
    rw [List.getElem?_cons_succ, List.getElem?_eq_getElem hi, e]

/-! ### the decks stand at 1 … 63; what a def may change of the heap -/
structure Dks (h : Hd) : Prop where
  len : 64 ≤ h.length
  dk : ∀ i, 1 ≤ i → i ≤ 63 → Dk h i
structure St (h h' : Hd) : Prop where
  dks : Dks h'
  len : h'.length = h.length
  same : ∀ j, j = 0 ∨ 64 ≤ j → h'[j]? = h[j]?
theorem St.refl {h : Hd} (d : Dks h) : St h h := ⟨d, rfl, fun _ _ => rfl⟩
theorem St.trans {a b c : Hd} (x : St a b) (y : St b c) : St a c := ⟨y.dks, y.len.trans x.len, fun j h => (y.same j h).trans (x.same j h)⟩
theorem St.clean {h h1 l : Hd} (x : St h h1) : Clean h (h1 ++ l) := fun j hj => by
  rw [List.getElem?_append_left (by rw [x.len]; exact hj)]
  by_cases q : j = 0 ∨ 64 ≤ j
  · exact .inl (x.same j q)
  · obtain ⟨a, b, e⟩ := x.dks.dk j (by omega) (by omega)
    exact .inr ⟨_, e, by simp [O.lo]⟩
theorem St.fin {h h1 l : Hd} {d : D} (x : St h h1) (hd : d.lo h.length) : fin1 h d (h1 ++ l) = .ok d h1 := by
  unfold fin1
  rw [if_pos ⟨hd, x.clean⟩, ← x.len, List.take_left]
theorem St.fin' {h h1 : Hd} {d : D} (x : St h h1) (hd : d.lo h.length) : fin1 h d h1 = .ok d h1 := by
  have := x.fin (l := []) hd
  rwa [List.append_nil] at this
/-- a stretch behind the decks -/
theorem St.app {h h1 : Hd} (l : Hd) (x : St h h1) : St (h ++ l) (h1 ++ l) := by
  refine ⟨⟨by have := x.dks.len; simp; omega, fun i a b => ?_⟩, by simp [x.len], fun j hj => ?_⟩
  · obtain ⟨p, q, e⟩ := x.dks.dk i a b
    exact ⟨p, q, by rw [List.getElem?_append_left (List.getElem?_eq_some_iff.mp e).1]; exact e⟩
  · by_cases q : j < h.length
    · rw [List.getElem?_append_left q, List.getElem?_append_left (by rw [x.len]; exact q)]
      exact x.same j hj
    · rw [List.getElem?_append_right (by rw [x.len]; omega), List.getElem?_append_right (by omega), x.len]
theorem Dks.app {h : Hd} (l : Hd) (x : Dks h) : Dks (h ++ l) := ((St.refl x).app l).dks
/-- split: what is behind stays -/
theorem St.unapp {h l h' : Hd} (d : 64 ≤ h.length) (x : St (h ++ l) h') : ∃ h1, h' = h1 ++ l ∧ h1.length = h.length ∧ Dks h1 ∧ (∀ j, j = 0 ∨ 64 ≤ j → h1[j]? = h[j]?) := by
  have hl : h'.length = h.length + l.length := by rw [x.len]; simp
  refine ⟨h'.take h.length, ?_, by rw [List.length_take]; omega, ⟨by rw [List.length_take]; omega, fun i a b => ?_⟩, fun j hj => ?_⟩
  · have e : h'.drop h.length = l := by
      apply List.ext_getElem?
      intro j
      rw [List.getElem?_drop]
      rw [x.same (h.length + j) (.inr (by omega)), List.getElem?_append_right (by omega)]
      congr 1
      omega
    rw [← e, List.take_append_drop]
  · obtain ⟨p, q, e⟩ := x.dks.dk i a b
    exact ⟨p, q, by rw [List.getElem?_take_of_lt (by omega)]; exact e⟩
  · by_cases q : j < h.length
    · rw [List.getElem?_take_of_lt q, x.same j hj, List.getElem?_append_left q]
    · rw [List.getElem?_eq_none (by rw [List.length_take]; omega), List.getElem?_eq_none (by omega)]
theorem draw {n : Nat} {h : Hd} {i : Nat} {many : Int} (hn : 1 ≤ n) (d : Dks h) (i1 : 1 ≤ i) (i2 : i ≤ 63) (h1 : 0 < many) (h2 : many < 1000000000) : ∃ (r : Int) (h' : Hd), callN T n 12 [.ref i, .int many] h = .ok (.int r) h' ∧ St h h' ∧ 0 ≤ r ∧ r < many := by
  obtain ⟨r, a, b, e, r1, r2⟩ := c_draw (n := n) (many := many) hn (d.dk i i1 i2) h1 (by omega)
  refine ⟨r, _, e, ⟨⟨by rw [List.length_set]; exact d.len, fun j j1 j2 => (d.dk j j1 j2).set⟩, by rw [List.length_set], fun j hj => ?_⟩, r1, r2⟩
  rw [List.getElem?_set_ne (by omega)]
theorem ix_mem {xs : List D} {r : Int} (h : Hd) (h1 : 0 ≤ r) (h2 : r < xs.length) : ∃ d ∈ xs, dIx (.lst xs) (.int r) h = .ok d h := by
  have hr : r.toNat < xs.length := by omega
  refine ⟨xs[r.toNat], List.getElem_mem hr, ?_⟩
  simp [dIx, dIxS, D.dict?, D.see, ixI, h1, h2, List.getElem?_eq_getElem hr]
theorem ix_ref {xs : List D} {r : Int} {i : Nat} {h : Hd} (e : h[i]? = some (.lst xs)) (h1 : 0 ≤ r) (h2 : r < xs.length) : ∃ d ∈ xs, dIx (.ref i) (.int r) h = .ok d h := by
  have hr : r.toNat < xs.length := by omega
  refine ⟨xs[r.toNat], List.getElem_mem hr, ?_⟩
  simp [dIx, dIxS, D.dict?, D.see, e, ixI, h1, h2, List.getElem?_eq_getElem hr]

end K24

namespace K24
def letC : List Nat := [97, 98, 99, 100, 101, 102, 103, 104, 105, 106, 107, 108, 109, 110, 111, 112, 113, 114, 115, 116, 117, 118, 119, 120, 121, 122]
open PySem L2 Ev
theorem ix_str {s : List Nat} {r : Int} (h : Hd) (h1 : 0 ≤ r) (h2 : r < s.length) : ∃ ch, dIx (.str s) (.int r) h = .ok (.str [ch]) h := by
  have hr : r.toNat < s.length := by omega
  refine ⟨s[r.toNat], ?_⟩
  simp [dIx, dIxS, D.dict?, D.see, ixI, h1, h2, List.getElem?_eq_getElem hr]
theorem comp_letters {n : Nat} (hn : 1 ≤ n) {src : Src} (hs : src.g = none) {t : Tau} {i : Nat} (i1 : 1 ≤ i) (i2 : i ≤ 63) (t1 : t[1]? = some (some (.str letC))) (t3 : t[3]? = some (some (.ref i))) : ∀ (cnt s0 : Nat) (h : Hd), Dks h →
    ∃ (chs : List Nat) (h' : Hd), compL src (stepC (callN T n) t (.nm 7) tYesM (mOp dIx (mVar 1) (mCall 12 (aCons (mVar 3) (aCons (mC (.int 26)) aNil))))) ((List.range' s0 cnt).map fun (k : Nat) => D.int (k : Int)) h = .ok (chs.map fun ch => D.str [ch]) h' ∧ St h h' ∧ chs.length = cnt := by
  have ok : ∀ h, src.ok h := fun h => by unfold Src.ok; rw [hs]; trivial
  intro cnt
  induction cnt with
  | zero =>
    intro s0 h d
    refine ⟨[], h, ?_, St.refl d, rfl⟩
    rw [List.range'_zero, List.map_nil]
    unfold compL
    rw [if_pos (ok _)]
    rfl
  | succ cnt ih =>
    intro s0 h d
    obtain ⟨r, ha, ea, sa, r1, r2⟩ := draw (n := n) (many := 26) hn d i1 i2 (by omega) (by omega)
    obtain ⟨ch, ec⟩ := ix_str (s := letC) ha r1 (by simpa [letC] using r2)
    obtain ⟨chs, h', e, s', hl⟩ := ih (s0 + 1) ha sa.dks
    refine ⟨ch :: chs, h', ?_, sa.trans s', by simp [hl]⟩
    rw [List.range'_succ, List.map_cons]
    unfold compL
    have est : stepC (callN T n) t (.nm 7) tYesM (mOp dIx (mVar 1) (mCall 12 (aCons (mVar 3) (aCons (mC (.int 26)) aNil)))) (.int s0) h = .ok (some (.str [ch])) ha := by
      simp [stepC, asg, noX, List.getElem?_set_ne, t1, t3, ea, ec]
    rw [if_pos (ok _), est, bind_ok, e, bind_ok]
    rfl
theorem strs_map (chs : List Nat) : strsOf (chs.map fun ch => D.str [ch]) = some (chs.map fun ch => [ch]) := by
  induction chs with
  | nil => rfl
  | cons a l ih => simp [strsOf, ih]
theorem join_map : ∀ chs : List Nat, joinD [] (chs.map fun ch => [ch]) = chs
  | [] => rfl
  | [a] => rfl
  | a :: b :: l => by
    have := join_map (b :: l)
    simp only [List.map_cons, joinD, List.nil_append] at this ⊢
    rw [this]
    rfl
theorem sum_map (chs : List Nat) : ((chs.map fun ch => [ch]).map List.length).sum = chs.length := by
  induction chs with
  | nil => rfl
  | cons a l ih =>
    rw [List.map_cons, List.map_cons, List.sum_cons, ih]
    simp
    omega
/-- ''.join of letters -/
theorem join_letters (chs : List Nat) (h : Hd) (hl : chs.length ≤ 1000) : fJoin (.str []) [.lst (chs.map fun ch => D.str [ch])] h = .ok (.str chs) h := by
  have hz : ((chs.map fun ch => [ch]).map List.length).sum + (chs.map fun ch => [ch]).length * ([] : List Nat).length ≤ 1000000 := by
    rw [sum_map]
    simp
    omega
  simp only [fJoin, D.see, strs_map, if_pos hz, join_map]
/-- a letter that is no name -/
theorem free_letter (nm : List (List Nat)) (hl : nm.length < 26) : ∃ ch ∈ letC, [ch] ∉ nm := by
  by_cases q : ∃ ch ∈ letC, [ch] ∉ nm
  · exact q
  · exfalso
    have all : ∀ ch ∈ letC, [ch] ∈ nm := fun ch m => by
      by_cases z : [ch] ∈ nm
      · exact z
      · exact (q ⟨ch, m, z⟩).elim
    have sub : (letC.map fun ch => [ch]) ⊆ nm := fun x hx => by
      obtain ⟨ch, m, rfl⟩ := List.mem_map.mp hx
      exact all ch m
    have nd : (letC.map fun ch => [ch]).Nodup := by decide
    have := List.Nodup.length_le_of_subset nd sub
    simp [letC] at this
    omega

noncomputable abbrev mJoin : M := mMt kJoin (mC (.str [])) (aCons (mComp false (iRng1 (mVar 5)) (.nm 7) [7] tYesM (mOp dIx (mVar 1) (mCall 12 (aCons (mVar 3) (aCons (mC (.int 26)) aNil))))) aNil)
noncomputable abbrev mFree : M := mOp dIx (mComp false (iVal (mVar 1)) (.nm 8) [8] (tCmp (mOp (dIn true) (mVar 8) (mVar 2))) (mVar 8)) (mC (.int 0))
noncomputable abbrev nmBody : MS := (sSeq (sSet 5 (mOp (dAdd false) (mC (.int 1)) (mCall 12 (aCons (mVar 3) (aCons (mC (.int 12)) aNil)))))
  (sSeq (sIf (tCmp (mOp (dEq false) (mCall 12 (aCons (mVar 3) (aCons (mC (.int 2)) aNil))) (mC (.int 0))))
  (sSet 5 (mOp (dAdd false) (mC (.int 1)) (mOp dDiv (mVar 5) (mC (.int 6)))))
  sNil)
  (sSeq (sSet 6 mJoin)
  (sSeq (sIf (tCmp (mOp (dIn false) (mVar 6) (mVar 2)))
  (sSet 6 mFree)
  sNil)
  (sExpr (mMt kAppend (mVar 2) (aCons (mVar 6) aNil)))))))
theorem names_plain (nm : List (List Nat)) : D.plainA (nm.map D.str) = true := by
  rw [plainA_iff]
  intro d hd
  obtain ⟨u, _, rfl⟩ := List.mem_map.mp hd
  rfl
theorem names_has (nm : List (List Nat)) (u : List Nat) : D.has (nm.map D.str) (.str u) = decide (u ∈ nm) := by
  induction nm with
  | nil => rfl
  | cons a l ih =>
    rw [List.map_cons, has_str, ih]
    by_cases h : a = u
    · subst h; simp
    · have : (a == u) = false := beq_eq_false_iff_ne.mpr h
      simp [this, Ne.symm h]
theorem in_names {neg : Bool} {H : Hd} {L : Nat} {nm : List (List Nat)} {u : List Nat} (e : H[L]? = some (.lst (nm.map D.str))) : dIn neg (.str u) (.ref L) H = .ok (.bl (neg != decide (u ∈ nm))) H := by
  have e1 : (D.ref L).dict? H = none := by simp [D.dict?, e]
  have e2 : (D.ref L).see H = .lst (nm.map D.str) := by simp [D.see, e]
  unfold dIn
  rw [e1]
  show dInS neg (.str u) (.ref L) H = _
  unfold dInS
  rw [e2]
  have e3 : cmpOk (.str u) (.lst (nm.map D.str)) = true := by simp [cmpOk, D.plain, names_plain, near, D.dep]
  show (if cmpOk (.str u) (.lst (nm.map D.str)) = true then _ else _) = _
  rw [if_pos e3, names_has]
theorem free_ev {c : Calls} {H : Hd} {L : Nat} {nm : List (List Nat)} {x0 x3 x4 x5 x6 x7 x8 : Option D} (e : H[L]? = some (.lst (nm.map D.str))) (hl : nm.length < 26) : ∃ ch, mFree c [x0, some (.str letC), some (.ref L), x3, x4, x5, x6, x7, x8] H = .ok (.str [ch]) H := by
  have hc : compL ⟨letC.map fun ch => D.str [ch], none⟩ (stepC c (wipeT [x0, some (.str letC), some (.ref L), x3, x4, x5, x6, x7, x8] [8]) (.nm 8) (tCmp (mOp (dIn true) (mVar 8) (mVar 2))) (mVar 8)) (letC.map fun ch => D.str [ch]) H = .ok ((letC.filter fun ch => !decide ([ch] ∈ nm)).map fun ch => D.str [ch]) H := by
    rw [comp_pure (s := ⟨letC.map fun ch => D.str [ch], none⟩) trivial (f := fun d => match d with | .str [ch] => (if [ch] ∈ nm then none else some (.str [ch])) | _ => none)]
    · congr 1
      rw [List.filterMap_map]
      generalize letC = s
      induction s with
      | nil => rfl
      | cons a s ih => by_cases ha : [a] ∈ nm <;> simp [ha, Function.comp_def] at ih ⊢ <;> exact ih
    · intro d hd
      obtain ⟨ch, _, rfl⟩ := List.mem_map.mp hd
      by_cases ha : [ch] ∈ nm <;> simp [stepC, asg, wipeT, noX, in_names e, ha]
  obtain ⟨ch, m, hm⟩ := free_letter nm hl
  have hne : (letC.filter fun ch => !decide ([ch] ∈ nm)) ≠ [] := fun z => by
    have : ch ∈ letC.filter fun ch => !decide ([ch] ∈ nm) := List.mem_filter.mpr ⟨m, by simpa using hm⟩
    rw [z] at this; cases this
  have hz : (letC.filter fun ch => !decide ([ch] ∈ nm)).length ≤ 26 := by
    have := List.length_filter_le (fun ch => !decide ([ch] ∈ nm)) letC
    exact Nat.le_trans this (by decide)
  generalize letC.filter (fun ch => !decide ([ch] ∈ nm)) = fl at hc hne hz
  cases fl with
  | nil => exact (hne rfl).elim
  | cons a l =>
    refine ⟨a, ?_⟩
    have e1 : iVal (mVar 1) c [x0, some (.str letC), some (.ref L), x3, x4, x5, x6, x7, x8] H = .ok ⟨letC.map fun ch => D.str [ch], none⟩ H := rfl
    have e2 : mComp false (iVal (mVar 1)) (.nm 8) [8] (tCmp (mOp (dIn true) (mVar 8) (mVar 2))) (mVar 8) c [x0, some (.str letC), some (.ref L), x3, x4, x5, x6, x7, x8] H = .ok (.lst ((a :: l).map fun ch => D.str [ch])) H := by
      unfold mComp
      rw [e1, bind_ok, hc, bind_ok, freshF _ (by rw [List.length_map]; omega)]
    unfold mFree
    rw [mOp_ev, e2, bind_ok, mC_ev, bind_ok]
    simp [dIx, dIxS, D.dict?, D.see, ixI]
theorem join_ev {n : Nat} (hn : 1 ≤ n) {H : Hd} {i : Nat} {sz : Int} (d : Dks H) (i1 : 1 ≤ i) (i2 : i ≤ 63) (h1 : 1 ≤ sz) (h2 : sz ≤ 12) (x0 x2 x4 x6 x7 x8 : Option D) : ∃ (u : List Nat) (H' : Hd), mJoin (callN T n) [x0, some (.str letC), x2, some (.ref i), x4, some (.int sz), x6, x7, x8] H = .ok (.str u) H' ∧ St H H' ∧ u.length ≤ 100 := by
  obtain ⟨chs, H', e, s, hl⟩ := comp_letters (n := n) hn (src := ⟨rngD 0 sz.toNat, none⟩) rfl (t := wipeT [x0, some (.str letC), x2, some (.ref i), x4, some (.int sz), x6, x7, x8] [7]) i1 i2 rfl rfl sz.toNat 0 H d
  refine ⟨chs, H', ?_, s, by omega⟩
  have eq : rngD 0 sz.toNat = (List.range' 0 sz.toNat).map fun (k : Nat) => D.int (k : Int) := by
    rw [rngD, List.range_eq_range']
    simp
  rw [← eq] at e
  have e1 : iRng1 (mVar 5) (callN T n) [x0, some (.str letC), x2, some (.ref i), x4, some (.int sz), x6, x7, x8] H = .ok ⟨rngD 0 sz.toNat, none⟩ H := by
    show dRng1 (.int sz) H = _
    exact dRng1_ok H (by omega) (by omega)
  have e2 : mComp false (iRng1 (mVar 5)) (.nm 7) [7] tYesM (mOp dIx (mVar 1) (mCall 12 (aCons (mVar 3) (aCons (mC (.int 26)) aNil)))) (callN T n) [x0, some (.str letC), x2, some (.ref i), x4, some (.int sz), x6, x7, x8] H = .ok (.lst (chs.map fun ch => D.str [ch])) H' := by
    unfold mComp
    rw [e1, bind_ok, e, bind_ok, freshF _ (by rw [List.length_map]; omega)]
  unfold mJoin
  rw [mMt_ev, mC_ev, bind_ok]
  show (aCons _ aNil (callN T n) _ H).bind _ = _
  rw [aCons_ev, e2, bind_ok, aNil_ev, bind_ok, bind_ok, join_letters chs H' (by omega)]
/-- a name more -/
theorem nm_step {n : Nat} (hn : 1 ≤ n) {H : Hd} {i L : Nat} {nm : List (List Nat)} (d : Dks H) (i1 : 1 ≤ i) (i2 : i ≤ 63) (hL : 64 ≤ L) (e : H[L]? = some (.lst (nm.map D.str))) (hl : nm.length < 26) (x0 x4 x5 x6 x7 x8 : Option D) :
    ∃ (u : List Nat) (y5 y6 : Option D) (H' : Hd), nmBody (callN T n) [x0, some (.str letC), some (.ref L), some (.ref i), x4, x5, x6, x7, x8] H = .nx [x0, some (.str letC), some (.ref L), some (.ref i), x4, y5, y6, x7, x8] H' ∧ Dks H' ∧ H'.length = H.length ∧ H'[L]? = some (.lst ((nm ++ [u]).map D.str)) ∧ (∀ j, j = 0 ∨ 64 ≤ j → j ≠ L → H'[j]? = H[j]?) ∧ u.length ≤ 100 := by
  obtain ⟨r, Ha, ea, sa, r1, r2⟩ := draw (n := n) (many := 12) hn d i1 i2 (by omega) (by omega)
  obtain ⟨q, Hb, eb, sb, q1, q2⟩ := draw (n := n) (many := 2) hn sa.dks i1 i2 (by omega) (by omega)
  obtain ⟨sz, hsz⟩ : ∃ sz : Int, sz = if q = 0 then 1 + (1 + r) / 6 else 1 + r := ⟨_, rfl⟩
  have sz1 : 1 ≤ sz := by rw [hsz]; split <;> omega
  have sz2 : sz ≤ 12 := by rw [hsz]; split <;> omega
  obtain ⟨u, Hc, ec, sc, ul⟩ := join_ev (n := n) hn sb.dks i1 i2 sz1 sz2 x0 (some (.ref L)) x4 x6 x7 x8
  have sab := sa.trans sb
  have sac := sab.trans sc
  have eL : Hc[L]? = some (.lst (nm.map D.str)) := (sac.same L (.inr hL)).trans e
  obtain ⟨ch, ef⟩ := free_ev (c := callN T n) (x0 := x0) (x3 := some (.ref i)) (x4 := x4) (x5 := some (.int sz)) (x6 := some (.str u)) (x7 := x7) (x8 := x8) eL hl
  obtain ⟨w, hw⟩ : ∃ w : List Nat, w = if u ∈ nm then [ch] else u := ⟨_, rfl⟩
  have wl : w.length ≤ 100 := by rw [hw]; split; · simp
                                 · exact ul
  have hLl := (List.getElem?_eq_some_iff.mp eL).1
  refine ⟨w, some (.int sz), some (.str w), Hc.set L (.lst ((nm ++ [w]).map D.str)), ?_, ⟨by rw [List.length_set]; exact sac.dks.len, fun j a b => ?_⟩, by rw [List.length_set, sac.len], by rw [List.getElem?_set_self hLl], fun j hj ne => ?_, wl⟩
  · have s1 : sSet 5 (mOp (dAdd false) (mC (.int 1)) (mCall 12 (aCons (mVar 3) (aCons (mC (.int 12)) aNil)))) (callN T n) [x0, some (.str letC), some (.ref L), some (.ref i), x4, x5, x6, x7, x8] H = .nx [x0, some (.str letC), some (.ref L), some (.ref i), x4, some (.int (1 + r)), x6, x7, x8] Ha := by
      simp [ea, dAdd]
    have s2 : sIf (tCmp (mOp (dEq false) (mCall 12 (aCons (mVar 3) (aCons (mC (.int 2)) aNil))) (mC (.int 0)))) (sSet 5 (mOp (dAdd false) (mC (.int 1)) (mOp dDiv (mVar 5) (mC (.int 6))))) sNil (callN T n) [x0, some (.str letC), some (.ref L), some (.ref i), x4, some (.int (1 + r)), x6, x7, x8] Ha = .nx [x0, some (.str letC), some (.ref L), some (.ref i), x4, some (.int sz), x6, x7, x8] Hb := by
      by_cases hq : q = 0
      · rw [if_pos hq] at hsz
        subst hq
        simp [eb, dEq, D.see, cmpOk, D.plain, near, D.dep, dAdd, dDiv, hsz]
      · rw [if_neg hq] at hsz
        simp [eb, dEq, D.see, cmpOk, D.plain, near, D.dep, hq, hsz]
    have s3 : sSet 6 mJoin (callN T n) [x0, some (.str letC), some (.ref L), some (.ref i), x4, some (.int sz), x6, x7, x8] Hb = .nx [x0, some (.str letC), some (.ref L), some (.ref i), x4, some (.int sz), some (.str u), x7, x8] Hc := by
      rw [sSet_ev, ec, toS_ok]
      rfl
    have s4 : sIf (tCmp (mOp (dIn false) (mVar 6) (mVar 2))) (sSet 6 mFree) sNil (callN T n) [x0, some (.str letC), some (.ref L), some (.ref i), x4, some (.int sz), some (.str u), x7, x8] Hc = .nx [x0, some (.str letC), some (.ref L), some (.ref i), x4, some (.int sz), some (.str w), x7, x8] Hc := by
      have ek : tCmp (mOp (dIn false) (mVar 6) (mVar 2)) (callN T n) [x0, some (.str letC), some (.ref L), some (.ref i), x4, some (.int sz), some (.str u), x7, x8] Hc = .ok (decide (u ∈ nm)) Hc := by
        simp [in_names eL]
      rw [sIf_ev, ek, toS_ok]
      by_cases hu : u ∈ nm
      · rw [if_pos hu] at hw
        subst hw
        rw [decide_eq_true hu, if_pos rfl, sSet_ev, ef, toS_ok]
        rfl
      · rw [if_neg hu] at hw
        subst hw
        rw [decide_eq_false hu, if_neg (by decide), sNil_ev]
    have hz : nm.length < sizeLine := by rw [sizeLine_eq]; omega
    have s5 : sExpr (mMt kAppend (mVar 2) (aCons (mVar 6) aNil)) (callN T n) [x0, some (.str letC), some (.ref L), some (.ref i), x4, some (.int sz), some (.str w), x7, x8] Hc = .nx [x0, some (.str letC), some (.ref L), some (.ref i), x4, some (.int sz), some (.str w), x7, x8] (Hc.set L (.lst ((nm ++ [w]).map D.str))) := by
      simp [kindOf, eL, kAppend, fAppend, D.open?, hz]
    unfold nmBody
    rw [sSeq_ev, s1, seq_nx, sSeq_ev, s2, seq_nx, sSeq_ev, s3, seq_nx, sSeq_ev, s4, seq_nx, s5]
  · obtain ⟨p, p', ep⟩ := sac.dks.dk j a b
    exact ⟨p, p', by rw [List.getElem?_set_ne (by omega)]; exact ep⟩
  · rw [List.getElem?_set_ne (Ne.symm ne)]
    exact sac.same j hj

noncomputable def stepK (c : Calls) (d : D) (t : Tau) (h : Hd) : SR := match asg (.nm 4) d t with
  | some t' => nmBody c t' h
  | none => .stuck
theorem nm_inner {n : Nat} (hn : 1 ≤ n) {src : Src} (hs : src.g = none) {i L : Nat} (i1 : 1 ≤ i) (i2 : i ≤ 63) (hL : 64 ≤ L) : ∀ (ds : List D) (nm : List (List Nat)) (H : Hd) (x0 x4 x5 x6 x7 x8 : Option D), Dks H → H[L]? = some (.lst (nm.map D.str)) → nm.length + ds.length < 26 → (∀ u ∈ nm, u.length ≤ 100) →
    ∃ (nm' : List (List Nat)) (y4 y5 y6 : Option D) (H' : Hd), forL src (stepK (callN T n)) ds [x0, some (.str letC), some (.ref L), some (.ref i), x4, x5, x6, x7, x8] H = .nx [x0, some (.str letC), some (.ref L), some (.ref i), y4, y5, y6, x7, x8] H' ∧ Dks H' ∧ H'.length = H.length ∧ H'[L]? = some (.lst (nm'.map D.str)) ∧ (∀ j, j = 0 ∨ 64 ≤ j → j ≠ L → H'[j]? = H[j]?) ∧ nm'.length = nm.length + ds.length ∧ ∀ u ∈ nm', u.length ≤ 100 := by
  have ok : ∀ h, src.ok h := fun h => by unfold Src.ok; rw [hs]; trivial
  intro ds
  induction ds with
  | nil =>
    intro nm H x0 x4 x5 x6 x7 x8 d e hl hu
    refine ⟨nm, x4, x5, x6, H, ?_, d, rfl, e, fun _ _ _ => rfl, rfl, hu⟩
    unfold forL
    rw [if_pos (ok _)]
  | cons a ds ih =>
    intro nm H x0 x4 x5 x6 x7 x8 d e hl hu
    obtain ⟨u, y5, y6, Ha, e1, d1, l1, g1, s1, ul⟩ := nm_step (n := n) hn d i1 i2 hL e (by simp at hl; omega) x0 (some a) x5 x6 x7 x8
    obtain ⟨nm', z4, z5, z6, Hb, e2, d2, l2, g2, s2, n2, u2⟩ := ih (nm ++ [u]) Ha x0 (some a) y5 y6 x7 x8 d1 g1 (by simp at hl ⊢; omega) (fun v hv => by
      rcases List.mem_append.mp hv with hv | hv
      · exact hu v hv
      · rw [List.mem_singleton.mp hv]; exact ul)
    refine ⟨nm', z4, z5, z6, Hb, ?_, d2, l2.trans l1, g2, fun j hj ne => (s2 j hj ne).trans (s1 j hj ne), by simp at n2 ⊢; omega, u2⟩
    unfold forL
    have est : stepK (callN T n) a [x0, some (.str letC), some (.ref L), some (.ref i), x4, x5, x6, x7, x8] H = nmBody (callN T n) [x0, some (.str letC), some (.ref L), some (.ref i), some a, x5, x6, x7, x8] H := rfl
    rw [if_pos (ok _), est, e1, turn_nx, e2]
theorem for3 (c : Calls) (t : Tau) (h : Hd) : sFor (iRng1 (mC (.int 3))) (.nm 4) nmBody c t h = forL ⟨rngD 0 3, none⟩ (stepK c) (rngD 0 3) t h := by
  have e : iRng1 (mC (.int 3)) c t h = .ok ⟨rngD 0 3, none⟩ h := dRng1_ok (j := 3) h (by omega) (by omega)
  unfold sFor
  rw [e, toS_ok]
  rfl
theorem c_names {n : Nat} {h : Hd} (hn : 2 ≤ n) (d : Dks h) : ∃ (nm : List (List Nat)) (h' : Hd), callN T n 13 [.lst [.ref 1, .ref 2]] h = .ok (.ref h.length) h' ∧ Dks h' ∧ h'.length = h.length + 1 ∧ h'[h.length]? = some (.lst (nm.map D.str)) ∧ (∀ j, j = 0 ∨ 64 ≤ j → j < h.length → h'[j]? = h[j]?) ∧ nm.length = 6 ∧ ∀ u ∈ nm, u.length ≤ 100 := by
  obtain ⟨m, rfl⟩ := lvl hn
  rw [call_at (F := ⟨1, 9, b__law_names⟩) rfl]
  have L64 := d.len
  have d0 : Dks (h ++ [.lst []]) := d.app _
  have g0 : (h ++ [O.lst []])[h.length]? = some (.lst (([] : List (List Nat)).map D.str)) := by simp
  obtain ⟨nm1, a4, a5, a6, H1, e1, d1, l1, g1, s1, n1, u1⟩ := nm_inner (n := m + 1) (by omega) (src := ⟨rngD 0 3, none⟩) rfl (i := 1) (L := h.length) (by omega) (by omega) L64 (rngD 0 3) [] (h ++ [.lst []]) (some (.lst [.ref 1, .ref 2])) none none none none none d0 g0 (by decide) (by simp)
  obtain ⟨nm2, b4, b5, b6, H2, e2, d2, l2, g2, s2, n2, u2⟩ := nm_inner (n := m + 1) (by omega) (src := ⟨rngD 0 3, none⟩) rfl (i := 2) (L := h.length) (by omega) (by omega) L64 (rngD 0 3) nm1 H1 (some (.lst [.ref 1, .ref 2])) a4 a5 a6 none none d1 g1 (by rw [n1]; decide) u1
  have r3 : (rngD 0 3).length = 3 := rfl
  refine ⟨nm2, H2, ?_, d2, by rw [l2, l1]; simp, g2, fun j hj jl => ?_, by rw [n2, n1, r3]; rfl, u2⟩
  · generalize callN T (m + 1) = c at e1 e2
    rw [runFn_go rfl]
    have e0 : (FnD.mk 1 9 b__law_names).body c ([.lst [.ref 1, .ref 2]].map some ++ List.replicate ((FnD.mk 1 9 b__law_names).nn - (FnD.mk 1 9 b__law_names).np) none) h = b__law_names c [some (.lst [.ref 1, .ref 2]), none, none, none, none, none, none, none, none] h := rfl
    have hb : b__law_names = sSeq (sSet 1 (mC (.str letC))) (sSeq (sSet 2 (mLst true aNil)) (sSeq (sFor (iVal (mVar 0)) (.nm 3) (sFor (iRng1 (mC (.int 3))) (.nm 4) nmBody)) (sRet (mVar 2)))) := rfl
    have s1' : sSet 2 (mLst true aNil) c [some (.lst [.ref 1, .ref 2]), some (.str letC), none, none, none, none, none, none, none] h = .nx [some (.lst [.ref 1, .ref 2]), some (.str letC), some (.ref h.length), none, none, none, none, none, none] (h ++ [.lst []]) := by simp
    have s2' : sFor (iVal (mVar 0)) (.nm 3) (sFor (iRng1 (mC (.int 3))) (.nm 4) nmBody) c [some (.lst [.ref 1, .ref 2]), some (.str letC), some (.ref h.length), none, none, none, none, none, none] (h ++ [.lst []]) = .nx [some (.lst [.ref 1, .ref 2]), some (.str letC), some (.ref h.length), some (.ref 2), b4, b5, b6, none, none] H2 := by
      have ei : iVal (mVar 0) c [some (.lst [.ref 1, .ref 2]), some (.str letC), some (.ref h.length), none, none, none, none, none, none] (h ++ [.lst []]) = .ok ⟨[.ref 1, .ref 2], none⟩ (h ++ [.lst []]) := rfl
      unfold sFor
      rw [ei, toS_ok]
      have ok : ∀ h, (Src.mk [.ref 1, .ref 2] none).ok h := fun h => trivial
      show forL ⟨[.ref 1, .ref 2], none⟩ _ [.ref 1, .ref 2] _ _ = _
      unfold forL
      rw [if_pos (ok _)]
      show (sFor (iRng1 (mC (.int 3))) (.nm 4) nmBody c [some (.lst [.ref 1, .ref 2]), some (.str letC), some (.ref h.length), some (.ref 1), none, none, none, none, none] (h ++ [.lst []])).turn _ = _
      rw [for3, e1, turn_nx]
      unfold forL
      rw [if_pos (ok _)]
      show (sFor (iRng1 (mC (.int 3))) (.nm 4) nmBody c [some (.lst [.ref 1, .ref 2]), some (.str letC), some (.ref h.length), some (.ref 2), a4, a5, a6, none, none] H1).turn _ = _
      rw [for3, e2, turn_nx]
      unfold forL
      rw [if_pos (ok _)]
    rw [e0, hb, sSeq_ev]
    show fin h (SR.seq (.nx [some (.lst [.ref 1, .ref 2]), some (.str letC), none, none, none, none, none, none, none] h) _) = _
    rw [seq_nx, sSeq_ev, s1', seq_nx, sSeq_ev, s2', seq_nx]
    show fin1 h (.ref h.length) H2 = _
    unfold fin1
    rw [if_neg (fun z => by have := z.1; rw [lo_ref] at this; omega)]
  · rw [s2 j hj (by omega), s1 j hj (by omega), List.getElem?_append_left jl]

theorem c_names23 {n : Nat} {h : Hd} (hn : 2 ≤ n) (d : Dks h) : ∃ (nm : List (List Nat)) (h' : Hd), callN T n 13 [.lst [.ref 2, .ref 3]] h = .ok (.ref h.length) h' ∧ Dks h' ∧ h'.length = h.length + 1 ∧ h'[h.length]? = some (.lst (nm.map D.str)) ∧ (∀ j, j = 0 ∨ 64 ≤ j → j < h.length → h'[j]? = h[j]?) ∧ nm.length = 6 ∧ ∀ u ∈ nm, u.length ≤ 100 := by
  obtain ⟨m, rfl⟩ := lvl hn
  rw [call_at (F := ⟨1, 9, b__law_names⟩) rfl]
  have L64 := d.len
  have d0 : Dks (h ++ [.lst []]) := d.app _
  have g0 : (h ++ [O.lst []])[h.length]? = some (.lst (([] : List (List Nat)).map D.str)) := by simp
  obtain ⟨nm1, a4, a5, a6, H1, e1, d1, l1, g1, s1, n1, u1⟩ := nm_inner (n := m + 1) (by omega) (src := ⟨rngD 0 3, none⟩) rfl (i := 2) (L := h.length) (by omega) (by omega) L64 (rngD 0 3) [] (h ++ [.lst []]) (some (.lst [.ref 2, .ref 3])) none none none none none d0 g0 (by decide) (by simp)
  obtain ⟨nm2, b4, b5, b6, H2, e2, d2, l2, g2, s2, n2, u2⟩ := nm_inner (n := m + 1) (by omega) (src := ⟨rngD 0 3, none⟩) rfl (i := 3) (L := h.length) (by omega) (by omega) L64 (rngD 0 3) nm1 H1 (some (.lst [.ref 2, .ref 3])) a4 a5 a6 none none d1 g1 (by rw [n1]; decide) u1
  have r3 : (rngD 0 3).length = 3 := rfl
  refine ⟨nm2, H2, ?_, d2, by rw [l2, l1]; simp, g2, fun j hj jl => ?_, by rw [n2, n1, r3]; rfl, u2⟩
  · generalize callN T (m + 1) = c at e1 e2
    rw [runFn_go rfl]
    have e0 : (FnD.mk 1 9 b__law_names).body c ([.lst [.ref 2, .ref 3]].map some ++ List.replicate ((FnD.mk 1 9 b__law_names).nn - (FnD.mk 1 9 b__law_names).np) none) h = b__law_names c [some (.lst [.ref 2, .ref 3]), none, none, none, none, none, none, none, none] h := rfl
    have hb : b__law_names = sSeq (sSet 1 (mC (.str letC))) (sSeq (sSet 2 (mLst true aNil)) (sSeq (sFor (iVal (mVar 0)) (.nm 3) (sFor (iRng1 (mC (.int 3))) (.nm 4) nmBody)) (sRet (mVar 2)))) := rfl
    have s1' : sSet 2 (mLst true aNil) c [some (.lst [.ref 2, .ref 3]), some (.str letC), none, none, none, none, none, none, none] h = .nx [some (.lst [.ref 2, .ref 3]), some (.str letC), some (.ref h.length), none, none, none, none, none, none] (h ++ [.lst []]) := by simp
    have s2' : sFor (iVal (mVar 0)) (.nm 3) (sFor (iRng1 (mC (.int 3))) (.nm 4) nmBody) c [some (.lst [.ref 2, .ref 3]), some (.str letC), some (.ref h.length), none, none, none, none, none, none] (h ++ [.lst []]) = .nx [some (.lst [.ref 2, .ref 3]), some (.str letC), some (.ref h.length), some (.ref 3), b4, b5, b6, none, none] H2 := by
      have ei : iVal (mVar 0) c [some (.lst [.ref 2, .ref 3]), some (.str letC), some (.ref h.length), none, none, none, none, none, none] (h ++ [.lst []]) = .ok ⟨[.ref 2, .ref 3], none⟩ (h ++ [.lst []]) := rfl
      unfold sFor
      rw [ei, toS_ok]
      have ok : ∀ h, (Src.mk [.ref 2, .ref 3] none).ok h := fun h => trivial
      show forL ⟨[.ref 2, .ref 3], none⟩ _ [.ref 2, .ref 3] _ _ = _
      unfold forL
      rw [if_pos (ok _)]
      show (sFor (iRng1 (mC (.int 3))) (.nm 4) nmBody c [some (.lst [.ref 2, .ref 3]), some (.str letC), some (.ref h.length), some (.ref 2), none, none, none, none, none] (h ++ [.lst []])).turn _ = _
      rw [for3, e1, turn_nx]
      unfold forL
      rw [if_pos (ok _)]
      show (sFor (iRng1 (mC (.int 3))) (.nm 4) nmBody c [some (.lst [.ref 2, .ref 3]), some (.str letC), some (.ref h.length), some (.ref 3), a4, a5, a6, none, none] H1).turn _ = _
      rw [for3, e2, turn_nx]
      unfold forL
      rw [if_pos (ok _)]
    rw [e0, hb, sSeq_ev]
    show fin h (SR.seq (.nx [some (.lst [.ref 2, .ref 3]), some (.str letC), none, none, none, none, none, none, none] h) _) = _
    rw [seq_nx, sSeq_ev, s1', seq_nx, sSeq_ev, s2', seq_nx]
    show fin1 h (.ref h.length) H2 = _
    unfold fin1
    rw [if_neg (fun z => by have := z.1; rw [lo_ref] at this; omega)]
  · rw [s2 j hj (by omega), s1 j hj (by omega), List.getElem?_append_left jl]

end K24

namespace K24
open PySem L2 Ev
def isF (f : List Nat) : Bool := [[107, 105, 110, 100], [115, 116, 97, 116, 101], [111, 119, 110, 101, 114], [108, 97, 98, 101, 108]].contains f
def Q.leaf : Q → Bool
  | .pl _ => true
  | .is f _ => isF f
  | .num _ _ _ => true
  | _ => false
inductive Tk where
  | leaf (q : Q) | nt | bn (o : Bool) | lk (e : Bool) (r : List Nat)
def Tk.d : Tk → D
  | .leaf q => q.d
  | .nt => .tup [.str wNot]
  | .bn o => .tup [.str (bw o)]
  | .lk e r => .tup [.str (lw e), .str r]
def Tk.isLk : Tk → Bool
  | .lk _ _ => true
  | _ => false
inductive Run : Int → List Tk → Int → Prop
  | nil (a : Int) : Run a [] a
  | leaf {a b : Int} {q : Q} {ts : List Tk} : q.leaf = true → Run (a + 1) ts b → Run a (.leaf q :: ts) b
  | nt {a b : Int} {ts : List Tk} : 1 ≤ a → Run a ts b → Run a (.nt :: ts) b
  | lk {a b : Int} {e : Bool} {r : List Nat} {ts : List Tk} : 1 ≤ a → Run a ts b → Run a (.lk e r :: ts) b
  | bn {a b : Int} {o : Bool} {ts : List Tk} : 2 ≤ a → Run (a - 1) ts b → Run a (.bn o :: ts) b
theorem Run.app {a b c : Int} {xs ys : List Tk} (h : Run a xs b) (k : Run b ys c) : Run a (xs ++ ys) c := by
  induction h with
  | nil a => exact k
  | leaf l _ ih => exact .leaf l (ih k)
  | nt g _ ih => exact .nt g (ih k)
  | lk g _ ih => exact .lk g (ih k)
  | bn g _ ih => exact .bn g (ih k)
theorem Run.nots {a : Int} (h : 1 ≤ a) (k : Nat) : Run a (List.replicate k .nt) a := by
  induction k with
  | zero => exact .nil a
  | succ k ih => exact .nt h ih
theorem Run.first {a b : Int} {cs : List Tk} (r : Run a cs b) (ha : a = 0) (hb : b = 1) : ∃ q ts, cs = .leaf q :: ts ∧ q.leaf = true ∧ Run 1 ts 1 := by
  cases r with
  | nil => omega
  | leaf l k => subst ha hb; exact ⟨_, _, rfl, l, k⟩
  | nt g k => omega
  | lk g k => omega
  | bn g k => omega
theorem Run.more {cs : List Tk} (r : Run 0 cs 1) (k : Nat) : Run 0 (cs ++ List.replicate k .nt) 1 ∧ Run 0 (cs.take 1 ++ List.replicate k .nt ++ cs.drop 1) 1 := by
  refine ⟨r.app (Run.nots (by omega) k), ?_⟩
  obtain ⟨t, ts, rfl, l, q⟩ := r.first rfl rfl
  have := Run.leaf (a := 0) (b := 1) l ((Run.nots (a := 0 + 1) (by omega) k).app q)
  simpa using this
theorem c_leaf {n : Nat} {h : Hd} {i k : Nat} {nm : List (List Nat)} (hn : 2 ≤ n) (d : Dks h) (i1 : 1 ≤ i) (i2 : i ≤ 63) (hk : 64 ≤ k) (hnm : h[k]? = some (.lst (nm.map D.str))) (hl : nm.length = 6) : ∃ q h', callN T n 14 [.ref i, .ref k] h = .ok (Q.d q) h' ∧ St h h' ∧ q.leaf = true := by
  obtain ⟨m, rfl⟩ := lvl hn
  rw [call_at (F := ⟨2, 6, b__law_leaf⟩) rfl]
  obtain ⟨p, ha, ea, sa, p1, p2⟩ := draw (n := m + 1) (many := 8) (by omega) d i1 i2 (by omega) (by omega)
  by_cases c1 : p < 2
  · obtain ⟨q, hb, eb, sb, q1, q2⟩ := draw (n := m + 1) (many := 6) (by omega) sa.dks i1 i2 (by omega) (by omega)
    obtain ⟨w, hw, ew⟩ := ix_mem (xs := [.str [99, 108, 111, 115, 101, 100], .str [111, 119, 110, 101, 100], .str [97, 108, 108], .str [110, 111, 110, 101], .str [99, 108, 111, 115, 101, 100], .str [111, 119, 110, 101, 100]]) hb q1 (by simpa using q2)
    have sab := sa.trans sb
    have hw' : ∃ p : Pl, w = .str p.w := by
      simp only [List.mem_cons, List.not_mem_nil, or_false] at hw
      rcases hw with rfl | rfl | rfl | rfl | rfl | rfl
      · exact ⟨.closed, rfl⟩
      · exact ⟨.owned, rfl⟩
      · exact ⟨.all, rfl⟩
      · exact ⟨.none, rfl⟩
      · exact ⟨.closed, rfl⟩
      · exact ⟨.owned, rfl⟩
    obtain ⟨pp, rfl⟩ := hw'
    refine ⟨.pl pp, hb, ?_, sab, rfl⟩
    simp [runFn, b__law_leaf, ea, dCmp, c1, eb, ew, sab.fin', Q.d]
  · by_cases c2 : p < 5
    · obtain ⟨q, hb, eb, sb, q1, q2⟩ := draw (n := m + 1) (many := 6) (by omega) sa.dks i1 i2 (by omega) (by omega)
      obtain ⟨w, hw, ew⟩ := ix_mem (xs := [.str [115, 116, 97, 116, 101], .str [108, 97, 98, 101, 108], .str [111, 119, 110, 101, 114], .str [107, 105, 110, 100], .str [115, 116, 97, 116, 101], .str [108, 97, 98, 101, 108]]) hb q1 (by simpa using q2)
      have hw' : ∃ f, w = .str f ∧ isF f = true := by
        simp only [List.mem_cons, List.not_mem_nil, or_false] at hw
        rcases hw with rfl | rfl | rfl | rfl | rfl | rfl <;> exact ⟨_, rfl, by decide⟩
      obtain ⟨fw', rfl, hf⟩ := hw'
      have sab := sa.trans sb
      obtain ⟨q', hc, ec, sc, q3, q4⟩ := draw (n := m + 1) (many := 6) (by omega) sab.dks i1 i2 (by omega) (by omega)
      have sac := sab.trans sc
      have hk3 : hc[k]? = some (.lst (nm.map D.str)) := (sac.same k (.inr hk)).trans hnm
      obtain ⟨u, hu, eu⟩ := ix_ref hk3 q3 (by rw [List.length_map, hl]; exact q4)
      obtain ⟨us, _, rfl⟩ := List.mem_map.mp hu
      refine ⟨.is fw' us, hc, ?_, sac, hf⟩
      simp [runFn, b__law_leaf, ea, dCmp, c1, c2, eb, ew, ec, eu, sac.fin', Q.d]
    · obtain ⟨q, hb, eb, sb, q1, q2⟩ := draw (n := m + 1) (many := 2) (by omega) sa.dks i1 i2 (by omega) (by omega)
      obtain ⟨w, hw, ew⟩ := ix_mem (xs := [.str [112, 114, 105, 111, 114, 105, 116, 121], .str [112, 111, 105, 110, 116, 115]]) hb q1 (by simpa using q2)
      have hw' : ∃ f, w = .str (fw f) := by
        simp only [List.mem_cons, List.not_mem_nil, or_false] at hw
        rcases hw with rfl | rfl
        · exact ⟨true, rfl⟩
        · exact ⟨false, rfl⟩
      obtain ⟨ff, rfl⟩ := hw'
      have sab := sa.trans sb
      obtain ⟨q', hc, ec, sc, q3, q4⟩ := draw (n := m + 1) (many := 5) (by omega) sab.dks i1 i2 (by omega) (by omega)
      obtain ⟨u, hu, eu⟩ := ix_mem (xs := [.str [61], .str [60], .str [62], .str [60, 61], .str [62, 61]]) hc q3 (by simpa using q4)
      have hu' : ∃ s : Sg, u = .str s.w := by
        simp only [List.mem_cons, List.not_mem_nil, or_false] at hu
        rcases hu with rfl | rfl | rfl | rfl | rfl
        · exact ⟨.eq, rfl⟩
        · exact ⟨.lt, rfl⟩
        · exact ⟨.gt, rfl⟩
        · exact ⟨.le, rfl⟩
        · exact ⟨.ge, rfl⟩
      obtain ⟨sg, rfl⟩ := hu'
      have sac := sab.trans sc
      obtain ⟨x1, h1, e1, t1, _, _⟩ := draw (n := m + 1) (many := 6) (by omega) sac.dks i1 i2 (by omega) (by omega)
      have s1 := sac.trans t1
      obtain ⟨x2, h2, e2, t2, _, _⟩ := draw (n := m + 1) (many := 23) (by omega) s1.dks i1 i2 (by omega) (by omega)
      have s2 := s1.trans t2
      obtain ⟨x3, h3, e3, t3, _, _⟩ := draw (n := m + 1) (many := 100) (by omega) s2.dks i1 i2 (by omega) (by omega)
      have s3 := s2.trans t3
      obtain ⟨x4, h4, e4, t4, y1, y2⟩ := draw (n := m + 1) (many := 2) (by omega) s3.dks i1 i2 (by omega) (by omega)
      have s4 := s3.trans t4
      obtain ⟨v, hv, ev⟩ := ix_mem (xs := [.int 99, .int x3]) h4 y1 (by simpa using y2)
      obtain ⟨v', rfl⟩ : ∃ v' : Int, v = .int v' := by
        simp only [List.mem_cons, List.not_mem_nil, or_false] at hv
        rcases hv with rfl | rfl <;> exact ⟨_, rfl⟩
      obtain ⟨x5, h5, e5, t5, z1, z2⟩ := draw (n := m + 1) (many := 3) (by omega) s4.dks i1 i2 (by omega) (by omega)
      have s5 := s4.trans t5
      obtain ⟨b, hb', eb'⟩ := ix_mem (xs := [.int x1, .int x2, .int v']) h5 z1 (by simpa using z2)
      obtain ⟨b', rfl⟩ : ∃ b' : Int, b = .int b' := by
        simp only [List.mem_cons, List.not_mem_nil, or_false] at hb'
        rcases hb' with rfl | rfl | rfl <;> exact ⟨_, rfl⟩
      refine ⟨.num ff sg b', h5, ?_, s5, rfl⟩
      simp [runFn, b__law_leaf, ea, dCmp, c1, c2, eb, ew, ec, eu, e1, e2, e3, e4, ev, e5, eb', s5.fin', Q.d]
abbrev cdBody : MS := (sSeq (sSet 8 (mCall 12 (aCons (mVar 6) (aCons (mC (.int 8)) aNil))))
  (sIf (tAnd (tCmp (mOp dGe (mVar 8) (mC (.int 6)))) (tCmp (mOp dGe (mVar 4) (mC (.int 2)))))
  (sSeq (sExpr (mMt kAppend (mVar 3) (aCons (mTup (aCons (mOp dIx (mLst false (aCons (mC (.str [97, 110, 100])) (aCons (mC (.str [111, 114])) aNil))) (mCall 12 (aCons (mVar 6) (aCons (mC (.int 2)) aNil)))) aNil)) aNil)))
  (sSet 4 (mOp dSub (mVar 4) (mC (.int 1)))))
  (sIf (tAnd (tCmp (mOp dGe (mVar 8) (mC (.int 4)))) (tAnd (tCmp (mOp dGe (mVar 4) (mC (.int 1)))) (tCmp (mOp dLt (mVar 5) (mVar 2)))))
  (sSeq (sSet 9 (mOp dIx (mLst false (aCons (mC (.str [98, 108, 111, 99, 107, 101, 114])) (aCons (mC (.str [99, 104, 105, 108, 100])) (aCons (mC (.str [111, 114, 105, 103, 105, 110, 97, 108])) aNil)))) (mCall 12 (aCons (mVar 6) (aCons (mC (.int 3)) aNil)))))
  (sSeq (sExpr (mMt kAppend (mVar 3) (aCons (mTup (aCons (mOp dIx (mLst false (aCons (mC (.str [115, 111, 109, 101])) (aCons (mC (.str [101, 118, 101, 114, 121])) aNil))) (mCall 12 (aCons (mVar 6) (aCons (mC (.int 2)) aNil)))) (aCons (mVar 9) aNil))) aNil)))
  (sSet 5 (mOp (dAdd false) (mVar 5) (mC (.int 1))))))
  (sIf (tAnd (tCmp (mOp (dEq false) (mVar 8) (mC (.int 3)))) (tCmp (mOp dGe (mVar 4) (mC (.int 1)))))
  (sExpr (mMt kAppend (mVar 3) (aCons (mTup (aCons (mC (.str [110, 111, 116])) aNil)) aNil)))
  (sSeq (sExpr (mMt kAppend (mVar 3) (aCons (mCall 14 (aCons (mVar 6) (aCons (mVar 1) aNil))) aNil)))
  (sSet 4 (mOp (dAdd false) (mVar 4) (mC (.int 1)))))))))
/-- appending to the open list at L -/
theorem app_at {c : Calls} {t : Tau} {h H : Hd} {m : M} {L : Nat} {xs : List D} {d : D} (t3 : t[3]? = some (some (.ref L))) (em : m c t h = .ok d H) (ek : h[L]? = some (.lst xs)) (e : H[L]? = some (.lst xs)) (hz : xs.length ≤ 1000) : sExpr (mMt kAppend (mVar 3) (aCons m aNil)) c t h = .nx t (H.set L (.lst (xs ++ [d]))) := by
  have hz1 : xs.length < sizeLine := by rw [sizeLine_eq]; omega
  simp [t3, kindOf, ek, kAppend, em, fAppend, D.open?, e, hz1]
structure CdR (H : Hd) (L : Nat) (cs : List Tk) (hh : Int) (tok : Tk) (hh' : Int) (most lk lk' : Int) (H' : Hd) : Prop where
  dks : Dks H'
  len : H'.length = H.length
  at_ : H'[L]? = some (.lst ((cs ++ [tok]).map Tk.d))
  same : ∀ j, j = 0 ∨ 64 ≤ j → j ≠ L → H'[j]? = H[j]?
  run : Run hh [tok] hh'
  pos : 1 ≤ hh'
  lks : tok.isLk = true → lk < most
  lk0 : lk ≤ lk'
  le : hh' ≤ hh + 1
theorem cdR {H Ha : Hd} {L : Nat} {cs : List Tk} {hh hh' most lk lk' : Int} {tok : Tk} (s : St H Ha) (hL : 64 ≤ L) (e : H[L]? = some (.lst (cs.map Tk.d))) (r : Run hh [tok] hh') (p : 1 ≤ hh') (l : hh' ≤ hh + 1) (hk : tok.isLk = true → lk < most) (hk0 : lk ≤ lk') : CdR H L cs hh tok hh' most lk lk' (Ha.set L (.lst (cs.map Tk.d ++ [tok.d]))) := by
  have eL := (s.same L (.inr hL)).trans e
  refine ⟨⟨by rw [List.length_set]; exact s.dks.len, fun j a b => ?_⟩, by rw [List.length_set, s.len], by rw [List.getElem?_set_self (List.getElem?_eq_some_iff.mp eL).1]; simp, fun j hj ne => ?_, r, p, hk, hk0, l⟩
  · obtain ⟨x, y, ep⟩ := s.dks.dk j a b
    exact ⟨x, y, by rw [List.getElem?_set_ne (by omega)]; exact ep⟩
  · rw [List.getElem?_set_ne (Ne.symm ne)]
    exact s.same j hj
theorem cd_step {n : Nat} (hn : 3 ≤ n) {H : Hd} {i L K : Nat} {nm : List (List Nat)} {cs : List Tk} {hh lk most : Int} (d : Dks H) (i1 : 1 ≤ i) (i2 : i ≤ 63) (hL : 64 ≤ L) (hK : 64 ≤ K) (eK : H[K]? = some (.lst (nm.map D.str))) (hl : nm.length = 6) (e : H[L]? = some (.lst (cs.map Tk.d))) (hz : cs.length ≤ 1000) (h0 : 0 ≤ hh) (x0 x7 x8 x9 : Option D) :
    ∃ (tok : Tk) (hh' lk' : Int) (y8 y9 : Option D) (H' : Hd), cdBody (callN T n) [x0, some (.ref K), some (.int most), some (.ref L), some (.int hh), some (.int lk), some (.ref i), x7, x8, x9] H = .nx [x0, some (.ref K), some (.int most), some (.ref L), some (.int hh'), some (.int lk'), some (.ref i), x7, y8, y9] H' ∧ CdR H L cs hh tok hh' most lk lk' H' := by
  obtain ⟨p, Ha, ea, sa, p1, p2⟩ := draw (n := n) (many := 8) (by omega) d i1 i2 (by omega) (by omega)
  have eLa := (sa.same L (.inr hL)).trans e
  have hz1 : cs.length < sizeLine := by rw [sizeLine_eq]; omega
  have hz2 : (cs.map Tk.d).length < sizeLine := by rw [List.length_map]; exact hz1
  by_cases cA : 6 ≤ p ∧ 2 ≤ hh
  · obtain ⟨q, Hb, eb, sb, q1, q2⟩ := draw (n := n) (many := 2) (by omega) sa.dks i1 i2 (by omega) (by omega)
    obtain ⟨w, hw, ew⟩ := ix_mem (xs := [.str [97, 110, 100], .str [111, 114]]) Hb q1 (by simpa using q2)
    obtain ⟨o, rfl⟩ : ∃ o, w = .str (bw o) := by
      simp only [List.mem_cons, List.not_mem_nil, or_false] at hw
      rcases hw with rfl | rfl
      · exact ⟨false, rfl⟩
      · exact ⟨true, rfl⟩
    have sab := sa.trans sb
    have eLb := (sab.same L (.inr hL)).trans e
    refine ⟨.bn o, hh - 1, lk, some (.int p), x9, _, ?_, cdR sab hL e (.bn cA.2 (.nil _)) (by omega) (by omega) (by simp [Tk.isLk]) (by omega)⟩
    simp [ea, dCmp, cA.1, cA.2, kindOf, eLa, eLb, kAppend, fAppend, D.open?, eb, ew, hz1, dSub, Tk.d]
  · have cA' : (decide (6 ≤ p) && decide (2 ≤ hh)) = false := by
      rw [Bool.and_eq_false_iff]
      by_cases h6 : 6 ≤ p
      · exact .inr (decide_eq_false fun z => cA ⟨h6, z⟩)
      · exact .inl (decide_eq_false h6)
    have s1 : sSet 8 (mCall 12 (aCons (mVar 6) (aCons (mC (.int 8)) aNil))) (callN T n) [x0, some (.ref K), some (.int most), some (.ref L), some (.int hh), some (.int lk), some (.ref i), x7, x8, x9] H = .nx [x0, some (.ref K), some (.int most), some (.ref L), some (.int hh), some (.int lk), some (.ref i), x7, some (.int p), x9] Ha := by simp [ea]
    have kA : tAnd (tCmp (mOp dGe (mVar 8) (mC (.int 6)))) (tCmp (mOp dGe (mVar 4) (mC (.int 2)))) (callN T n) [x0, some (.ref K), some (.int most), some (.ref L), some (.int hh), some (.int lk), some (.ref i), x7, some (.int p), x9] Ha = .ok false Ha := by
      rw [← cA']
      by_cases h6 : 6 ≤ p <;> simp [dCmp, h6]
    have eKa := (sa.same K (.inr hK)).trans eK
    unfold cdBody
    rw [sSeq_ev, s1, seq_nx, sIf_ev, kA, toS_ok, if_neg (by decide), sIf_ev]
    by_cases cB : 4 ≤ p ∧ 1 ≤ hh ∧ lk < most
    · have kB : tAnd (tCmp (mOp dGe (mVar 8) (mC (.int 4)))) (tAnd (tCmp (mOp dGe (mVar 4) (mC (.int 1)))) (tCmp (mOp dLt (mVar 5) (mVar 2)))) (callN T n) [x0, some (.ref K), some (.int most), some (.ref L), some (.int hh), some (.int lk), some (.ref i), x7, some (.int p), x9] Ha = .ok true Ha := by
        simp [dCmp, cB.1, cB.2.1, cB.2.2]
      obtain ⟨q, Hb, eb, sb, q1, q2⟩ := draw (n := n) (many := 3) (by omega) sa.dks i1 i2 (by omega) (by omega)
      obtain ⟨w, hw, ew⟩ := ix_mem (xs := [.str [98, 108, 111, 99, 107, 101, 114], .str [99, 104, 105, 108, 100], .str [111, 114, 105, 103, 105, 110, 97, 108]]) Hb q1 (by simpa using q2)
      obtain ⟨ws, rfl⟩ : ∃ ws, w = .str ws := by
        simp only [List.mem_cons, List.not_mem_nil, or_false] at hw
        rcases hw with rfl | rfl | rfl <;> exact ⟨_, rfl⟩
      have sab := sa.trans sb
      have eLb := (sab.same L (.inr hL)).trans e
      obtain ⟨q', Hc, ec, sc, q3, q4⟩ := draw (n := n) (many := 2) (by omega) sab.dks i1 i2 (by omega) (by omega)
      obtain ⟨v, hv, ev⟩ := ix_mem (xs := [.str [115, 111, 109, 101], .str [101, 118, 101, 114, 121]]) Hc q3 (by simpa using q4)
      obtain ⟨ee, rfl⟩ : ∃ ee, v = .str (lw ee) := by
        simp only [List.mem_cons, List.not_mem_nil, or_false] at hv
        rcases hv with rfl | rfl
        · exact ⟨false, rfl⟩
        · exact ⟨true, rfl⟩
      have sac := sab.trans sc
      have eLc := (sac.same L (.inr hL)).trans e
      refine ⟨.lk ee ws, hh, lk + 1, some (.int p), some (.str ws), _, ?_, cdR sac hL e (.lk cB.2.1 (.nil _)) cB.2.1 (by omega) (fun _ => cB.2.2) (by omega)⟩
      rw [kB, toS_ok, if_pos rfl]
      simp [eb, ew, kindOf, eLb, eLc, kAppend, fAppend, D.open?, ec, ev, hz1, dAdd, Tk.d]
    · have kB : tAnd (tCmp (mOp dGe (mVar 8) (mC (.int 4)))) (tAnd (tCmp (mOp dGe (mVar 4) (mC (.int 1)))) (tCmp (mOp dLt (mVar 5) (mVar 2)))) (callN T n) [x0, some (.ref K), some (.int most), some (.ref L), some (.int hh), some (.int lk), some (.ref i), x7, some (.int p), x9] Ha = .ok false Ha := by
        by_cases h1 : 4 ≤ p <;> by_cases h2 : 1 ≤ hh <;> by_cases h3 : lk < most <;> simp [dCmp, h1, h2, h3]
        exact (cB ⟨h1, h2, h3⟩).elim
      rw [kB, toS_ok, if_neg (by decide), sIf_ev]
      by_cases cC : p = 3 ∧ 1 ≤ hh
      · have kC : tAnd (tCmp (mOp (dEq false) (mVar 8) (mC (.int 3)))) (tCmp (mOp dGe (mVar 4) (mC (.int 1)))) (callN T n) [x0, some (.ref K), some (.int most), some (.ref L), some (.int hh), some (.int lk), some (.ref i), x7, some (.int p), x9] Ha = .ok true Ha := by
          simp [dEq, D.see, cmpOk, D.plain, near, D.dep, dCmp, cC.1, cC.2]
        refine ⟨.nt, hh, lk, some (.int p), x9, _, ?_, cdR sa hL e (.nt cC.2 (.nil _)) cC.2 (by omega) (by simp [Tk.isLk]) (by omega)⟩
        rw [kC, toS_ok, if_pos rfl]
        simp [kindOf, eLa, kAppend, fAppend, D.open?, hz1, Tk.d]
      · have kC : tAnd (tCmp (mOp (dEq false) (mVar 8) (mC (.int 3)))) (tCmp (mOp dGe (mVar 4) (mC (.int 1)))) (callN T n) [x0, some (.ref K), some (.int most), some (.ref L), some (.int hh), some (.int lk), some (.ref i), x7, some (.int p), x9] Ha = .ok false Ha := by
          by_cases h1 : p = 3 <;> by_cases h2 : 1 ≤ hh <;> simp [dEq, D.see, cmpOk, D.plain, near, D.dep, dCmp, h1, h2]
          exact (cC ⟨h1, h2⟩).elim
        obtain ⟨tok, Hb, eb, sb, lf⟩ := c_leaf (n := n) (by omega) sa.dks i1 i2 hK eKa hl
        have sab := sa.trans sb
        have eLb := (sab.same L (.inr hL)).trans e
        refine ⟨.leaf tok, hh + 1, lk, some (.int p), x9, _, ?_, cdR sab hL e (.leaf lf (.nil _)) (by omega) (by omega) (by simp [Tk.isLk]) (by omega)⟩
        rw [kC, toS_ok, if_neg (by decide)]
        simp [kindOf, eLa, eLb, kAppend, fAppend, D.open?, eb, hz1, dAdd, Tk.d]
def stepC1 (c : Calls) (d : D) (t : Tau) (h : Hd) : SR := match asg (.nm 6) d t with
  | some t' => cdBody c t' h
  | none => .stuck
theorem cd_loop {n : Nat} (hn : 3 ≤ n) {src : Src} (hs : src.g = none) {L K : Nat} {nm : List (List Nat)} (hL : 64 ≤ L) (hK : 64 ≤ K) (hKL : K ≠ L) (hl : nm.length = 6) {most : Int} : ∀ (js : List Nat) (cs : List Tk) (hh lk : Int) (H : Hd) (x0 x6 x7 x8 x9 : Option D), (∀ j ∈ js, 1 ≤ j ∧ j ≤ 63) → Dks H → H[K]? = some (.lst (nm.map D.str)) → H[L]? = some (.lst (cs.map Tk.d)) → cs.length + js.length ≤ 900 → 0 ≤ hh → hh ≤ cs.length → Run 0 cs hh → (most = 0 → 0 ≤ lk ∧ ∀ t ∈ cs, t.isLk = false) →
    ∃ (cs' : List Tk) (hh' lk' : Int) (y6 y8 y9 : Option D) (H' : Hd), forL src (stepC1 (callN T n)) (js.map D.ref) [x0, some (.ref K), some (.int most), some (.ref L), some (.int hh), some (.int lk), x6, x7, x8, x9] H = .nx [x0, some (.ref K), some (.int most), some (.ref L), some (.int hh'), some (.int lk'), y6, x7, y8, y9] H' ∧
      Dks H' ∧ H'.length = H.length ∧ H'[L]? = some (.lst (cs'.map Tk.d)) ∧ (most = 0 → ∀ t ∈ cs', t.isLk = false) ∧ (∀ j, j = 0 ∨ 64 ≤ j → j ≠ L → H'[j]? = H[j]?) ∧ Run 0 cs' hh' ∧ cs'.length = cs.length + js.length ∧ (js ≠ [] → 1 ≤ hh') ∧ hh' ≤ cs'.length ∧ 0 ≤ hh' := by
  have ok : ∀ h, src.ok h := fun h => by unfold Src.ok; rw [hs]; trivial
  intro js
  induction js with
  | nil =>
    intro cs hh lk H x0 x6 x7 x8 x9 hj d eK e hz h0 h1 r hm
    refine ⟨cs, hh, lk, x6, x8, x9, H, ?_, d, rfl, e, fun q => (hm q).2, fun _ _ _ => rfl, r, rfl, fun z => (z rfl).elim, h1, h0⟩
    rw [List.map_nil]
    unfold forL
    rw [if_pos (ok _)]
  | cons j js ih =>
    intro cs hh lk H x0 x6 x7 x8 x9 hj d eK e hz h0 h1 r hm
    obtain ⟨j1, j2⟩ := hj j List.mem_cons_self
    obtain ⟨tok, g, lk1, y8, y9, Ha, ea, R⟩ := cd_step (n := n) hn d j1 j2 hL hK eK hl e (by simp at hz; omega) h0 x0 x7 x8 x9 (lk := lk) (most := most)
    obtain ⟨cs', g', lk', z6, z8, z9, Hb, eb, d', l', e', m', s', r', n', p', q', w'⟩ := ih (cs ++ [tok]) g lk1 Ha x0 (some (.ref j)) x7 y8 y9 (fun x m => hj x (List.mem_cons_of_mem _ m)) R.dks ((R.same K (.inr hK) hKL).trans eK) R.at_ (by simp at hz ⊢; omega) (by have := R.pos; omega) (by have := R.le; simp; omega) (r.app R.run) (fun q => by
      obtain ⟨a1, a2⟩ := hm q
      have := R.lk0
      refine ⟨by omega, fun t ht => ?_⟩
      rcases List.mem_append.mp ht with ht | ht
      · exact a2 t ht
      · rw [List.mem_singleton.mp ht]
        cases z : tok.isLk with
        | false => rfl
        | true => have := R.lks z; omega)
    refine ⟨cs', g', lk', z6, z8, z9, Hb, ?_, d', l'.trans R.len, e', m', fun x hx ne => (s' x hx ne).trans (R.same x hx ne), r', by simp at n' ⊢; omega, fun _ => ?_, q', w'⟩
    · rw [List.map_cons]
      unfold forL
      have est : stepC1 (callN T n) (.ref j) [x0, some (.ref K), some (.int most), some (.ref L), some (.int hh), some (.int lk), x6, x7, x8, x9] H = cdBody (callN T n) [x0, some (.ref K), some (.int most), some (.ref L), some (.int hh), some (.int lk), some (.ref j), x7, x8, x9] H := rfl
      rw [if_pos (ok _), est, ea, turn_nx, eb]
    · cases js with
      | nil =>
        rw [List.map_nil] at eb
        unfold forL at eb
        rw [if_pos (ok _)] at eb
        injection eb with eb1 eb2
        have : some (D.int g) = some (D.int g') := by
          have := congrArg (fun l => l[4]?) eb1
          simpa using this
        have q : g = g' := by injection this with z; injection z
        rw [← q]
        exact R.pos
      | cons a l => exact p' (by simp)
def Tk.hw : Tk → Nat
  | .leaf _ => 2
  | .nt => 1
  | .bn _ => 1
  | .lk _ _ => 3
def hwT (ts : List Tk) : Nat := (ts.map Tk.hw).sum
theorem hwT_cons (t : Tk) (ts : List Tk) : hwT (t :: ts) = t.hw + hwT ts := by simp [hwT]
theorem hwT_app (xs ys : List Tk) : hwT (xs ++ ys) = hwT xs + hwT ys := by simp [hwT]
theorem run_hwb {a b : Int} {cs : List Tk} (r : Run a cs b) : (hwT cs : Int) + b ≤ a + 3 * (cs.length : Int) := by
  induction r with
  | nil a => simp [hwT]
  | leaf _ _ ih => rw [hwT_cons, List.length_cons]; simp only [Tk.hw]; omega
  | nt _ _ ih => rw [hwT_cons, List.length_cons]; simp only [Tk.hw]; omega
  | lk _ _ ih => rw [hwT_cons, List.length_cons]; simp only [Tk.hw]; omega
  | bn _ _ ih => rw [hwT_cons, List.length_cons]; simp only [Tk.hw]; omega
abbrev endM : M := mTup (aCons (mOp dIx (mLst false (aCons (mC (.str [97, 110, 100])) (aCons (mC (.str [111, 114])) aNil))) (mOp dMod (mVar 7) (mC (.int 2)))) aNil)
def stepC2 (c : Calls) (d : D) (t : Tau) (h : Hd) : SR := match asg (.nm 7) d t with
  | some t' => sExpr (mMt kAppend (mVar 3) (aCons endM aNil)) c t' h
  | none => .stuck
theorem end_loop {c : Calls} {src : Src} (hs : src.g = none) {L : Nat} : ∀ (cnt s0 : Nat) (cs : List Tk) (z : Int) (H : Hd) (x0 x1 x2 x4 x5 x6 x7 x8 x9 : Option D), H[L]? = some (.lst (cs.map Tk.d)) → cs.length + cnt ≤ 900 → Run 0 cs z → (cnt : Int) + 1 ≤ z →
    ∃ (cs' : List Tk) (y7 : Option D), forL src (stepC2 c) ((List.range' s0 cnt).map fun (k : Nat) => D.int (k : Int)) [x0, x1, x2, some (.ref L), x4, x5, x6, x7, x8, x9] H = .nx [x0, x1, x2, some (.ref L), x4, x5, x6, y7, x8, x9] (H.set L (.lst (cs'.map Tk.d))) ∧ Run 0 cs' (z - cnt) ∧ cs'.length = cs.length + cnt ∧ hwT cs' = hwT cs + cnt ∧ ∀ t ∈ cs', t ∈ cs ∨ t.isLk = false := by
  have ok : ∀ h, src.ok h := fun h => by unfold Src.ok; rw [hs]; trivial
  intro cnt
  induction cnt with
  | zero =>
    intro s0 cs z H x0 x1 x2 x4 x5 x6 x7 x8 x9 e hz r hc
    refine ⟨cs, x7, ?_, by simpa using r, rfl, rfl, fun t ht => .inl ht⟩
    rw [List.range'_zero, List.map_nil]
    unfold forL
    rw [if_pos (ok _)]
    have : H.set L (.lst (cs.map Tk.d)) = H := by
      apply List.ext_getElem?
      intro j
      by_cases q : L = j
      · subst q
        rw [List.getElem?_set_self (List.getElem?_eq_some_iff.mp e).1, e]
      · rw [List.getElem?_set_ne q]
    rw [this]
  | succ cnt ih =>
    intro s0 cs z H x0 x1 x2 x4 x5 x6 x7 x8 x9 e hz r hc
    obtain ⟨w, hw⟩ : ∃ w : Int, w = (s0 : Int) := ⟨_, rfl⟩
    have m1 := Int.emod_nonneg w (show (2 : Int) ≠ 0 by omega)
    have m2 := Int.emod_lt_of_pos w (show (0 : Int) < 2 by omega)
    obtain ⟨v, hv, ev⟩ := ix_mem (xs := [.str [97, 110, 100], .str [111, 114]]) H m1 (by simpa using m2)
    obtain ⟨o, rfl⟩ : ∃ o, v = .str (bw o) := by
      simp only [List.mem_cons, List.not_mem_nil, or_false] at hv
      rcases hv with rfl | rfl
      · exact ⟨false, rfl⟩
      · exact ⟨true, rfl⟩
    have hLl := (List.getElem?_eq_some_iff.mp e).1
    obtain ⟨cs', y7, e2, r2, n2, w2, m2'⟩ := ih (s0 + 1) (cs ++ [.bn o]) (z - 1) (H.set L (.lst (cs.map Tk.d ++ [.tup [.str (bw o)]]))) x0 x1 x2 x4 x5 x6 (some (.int s0)) x8 x9 (by rw [List.getElem?_set_self hLl]; simp [Tk.d]) (by simp at hz ⊢; omega) (r.app (.bn (by omega) (.nil _))) (by omega)
    refine ⟨cs', y7, ?_, by rw [show z - ((cnt + 1 : Nat) : Int) = z - 1 - cnt by omega]; exact r2, by simp at n2 ⊢; omega, by rw [hwT_app] at w2; have : hwT [Tk.bn o] = 1 := rfl; omega, fun t ht => (m2' t ht).elim (fun q => (List.mem_append.mp q).elim .inl fun q => .inr (by rw [List.mem_singleton.mp q]; rfl)) .inr⟩
    rw [List.range'_succ, List.map_cons]
    unfold forL
    have em : endM c [x0, x1, x2, some (.ref L), x4, x5, x6, some (.int s0), x8, x9] H = .ok (.tup [.str (bw o)]) H := by
      rw [← hw]
      simp [dMod, ev]
    have est : stepC2 c (.int s0) [x0, x1, x2, some (.ref L), x4, x5, x6, x7, x8, x9] H = .nx [x0, x1, x2, some (.ref L), x4, x5, x6, some (.int s0), x8, x9] (H.set L (.lst (cs.map Tk.d ++ [.tup [.str (bw o)]]))) := app_at (t := [x0, x1, x2, some (.ref L), x4, x5, x6, some (.int s0), x8, x9]) rfl em e e (by rw [List.length_map]; omega)
    rw [if_pos (ok _), est, turn_nx, e2]
    rw [List.set_set]
theorem c_code {n : Nat} {most : Int} {h : Hd} {K : Nat} {nm : List (List Nat)} (hn : 4 ≤ n) (d : Dks h) (js : List Nat) (hj : ∀ j ∈ js, 1 ≤ j ∧ j ≤ 63) (hne : js ≠ []) (hlen : js.length ≤ 60) (hK : 64 ≤ K) (hKl : K < h.length) (eK : h[K]? = some (.lst (nm.map D.str))) (hl : nm.length = 6) :
    ∃ (cs : List Tk) (h' : Hd), callN T n 15 [.lst (js.map D.ref), .ref K, .int most] h = .ok (.ref h.length) h' ∧ Dks h' ∧ h'.length = h.length + 1 ∧ h'[h.length]? = some (.lst (cs.map Tk.d)) ∧ (most = 0 → ∀ t ∈ cs, t.isLk = false) ∧ (∀ j, j = 0 ∨ 64 ≤ j → j < h.length → h'[j]? = h[j]?) ∧ Run 0 cs 1 ∧ cs.length ≤ 2 * js.length ∧ hwT cs + 1 ≤ 3 * js.length := by
  obtain ⟨m, rfl⟩ := lvl hn
  rw [call_at (F := ⟨3, 10, b__law_code⟩) rfl]
  have L64 := d.len
  have g0 : (h ++ [O.lst []])[h.length]? = some (.lst []) := by simp
  have gK : (h ++ [O.lst []])[K]? = some (.lst (nm.map D.str)) := by rw [List.getElem?_append_left hKl]; exact eK
  obtain ⟨cs, z, lk, y6, y8, y9, H1, e1, d1, l1, g1, mm1, s1, r1, n1, p1, q1, w1⟩ := cd_loop (most := most) (n := m + 3) (by omega) (src := ⟨js.map D.ref, none⟩) rfl (L := h.length) L64 hK (by omega) hl js [] 0 0 (h ++ [.lst []]) (some (.lst (js.map D.ref))) none none none none hj (d.app _) gK g0 (by simp; omega) (by omega) (by simp) (.nil _) (fun _ => ⟨by omega, by simp⟩)
  have z1 := p1 hne
  simp at n1
  obtain ⟨cnt, hcnt⟩ : ∃ cnt : Nat, (cnt : Int) = z - 1 := ⟨(z - 1).toNat, by omega⟩
  generalize callN T (m + 3) = c at e1
  obtain ⟨cs', y7, e2, r2, n2, w2, m2'⟩ := end_loop (c := c) (src := ⟨rngD 0 cnt, none⟩) rfl (L := h.length) cnt 0 cs z H1 (some (.lst (js.map D.ref))) (some (.ref K)) (some (.int most)) (some (.int z)) (some (.int lk)) y6 none y8 y9 g1 (by omega) r1 (by omega)
  have hLl := (List.getElem?_eq_some_iff.mp g1).1
  refine ⟨cs', H1.set h.length (.lst (cs'.map Tk.d)), ?_, ⟨by rw [List.length_set]; exact d1.len, fun j a b => ?_⟩, by rw [List.length_set, l1]; simp, by rw [List.getElem?_set_self hLl], fun q t ht => (m2' t ht).elim (mm1 q t) id, fun j hj jl => ?_, by rw [show (1 : Int) = z - cnt by omega]; exact r2, by omega, by have := run_hwb r1; omega⟩
  · rw [runFn_go rfl]
    have e0 : (FnD.mk 3 10 b__law_code).body c ([.lst (js.map D.ref), .ref K, .int most].map some ++ List.replicate ((FnD.mk 3 10 b__law_code).nn - (FnD.mk 3 10 b__law_code).np) none) h = b__law_code c [some (.lst (js.map D.ref)), some (.ref K), some (.int most), none, none, none, none, none, none, none] h := rfl
    have hb : b__law_code = sSeq (sSet 3 (mLst true aNil)) (sSeq (sSet 4 (mC (.int 0))) (sSeq (sSet 5 (mC (.int 0))) (sSeq (sFor (iVal (mVar 0)) (.nm 6) cdBody) (sSeq (sFor (iRng1 (mOp dSub (mVar 4) (mC (.int 1)))) (.nm 7) (sExpr (mMt kAppend (mVar 3) (aCons endM aNil)))) (sRet (mVar 3)))))) := rfl
    have a1 : sSet 3 (mLst true aNil) c [some (.lst (js.map D.ref)), some (.ref K), some (.int most), none, none, none, none, none, none, none] h = .nx [some (.lst (js.map D.ref)), some (.ref K), some (.int most), some (.ref h.length), none, none, none, none, none, none] (h ++ [.lst []]) := by simp
    have a2 : sSet 4 (mC (.int 0)) c [some (.lst (js.map D.ref)), some (.ref K), some (.int most), some (.ref h.length), none, none, none, none, none, none] (h ++ [.lst []]) = .nx [some (.lst (js.map D.ref)), some (.ref K), some (.int most), some (.ref h.length), some (.int 0), none, none, none, none, none] (h ++ [.lst []]) := rfl
    have a3 : sSet 5 (mC (.int 0)) c [some (.lst (js.map D.ref)), some (.ref K), some (.int most), some (.ref h.length), some (.int 0), none, none, none, none, none] (h ++ [.lst []]) = .nx [some (.lst (js.map D.ref)), some (.ref K), some (.int most), some (.ref h.length), some (.int 0), some (.int 0), none, none, none, none] (h ++ [.lst []]) := rfl
    have a4 : sFor (iVal (mVar 0)) (.nm 6) cdBody c [some (.lst (js.map D.ref)), some (.ref K), some (.int most), some (.ref h.length), some (.int 0), some (.int 0), none, none, none, none] (h ++ [.lst []]) = .nx [some (.lst (js.map D.ref)), some (.ref K), some (.int most), some (.ref h.length), some (.int z), some (.int lk), y6, none, y8, y9] H1 := by
      rw [← e1]
      rfl
    have a5 : sFor (iRng1 (mOp dSub (mVar 4) (mC (.int 1)))) (.nm 7) (sExpr (mMt kAppend (mVar 3) (aCons endM aNil))) c [some (.lst (js.map D.ref)), some (.ref K), some (.int most), some (.ref h.length), some (.int z), some (.int lk), y6, none, y8, y9] H1 = .nx [some (.lst (js.map D.ref)), some (.ref K), some (.int most), some (.ref h.length), some (.int z), some (.int lk), y6, y7, y8, y9] (H1.set h.length (.lst (cs'.map Tk.d))) := by
      have er : iRng1 (mOp dSub (mVar 4) (mC (.int 1))) c [some (.lst (js.map D.ref)), some (.ref K), some (.int most), some (.ref h.length), some (.int z), some (.int lk), y6, none, y8, y9] H1 = .ok ⟨rngD 0 cnt, none⟩ H1 := by
        show dRng1 (.int (z - 1)) H1 = _
        rw [dRng1_ok H1 (by omega) (by omega), show (z - 1).toNat = cnt by omega]
      have eq : rngD 0 cnt = (List.range' 0 cnt).map fun (k : Nat) => D.int (k : Int) := by
        rw [rngD, List.range_eq_range']
        simp
      unfold sFor
      rw [er, toS_ok, ← e2, ← eq]
      rfl
    rw [e0, hb, sSeq_ev, a1, seq_nx, sSeq_ev, a2, seq_nx, sSeq_ev, a3, seq_nx, sSeq_ev, a4, seq_nx, sSeq_ev, a5, seq_nx]
    show fin1 h (.ref h.length) _ = _
    unfold fin1
    rw [if_neg (fun z => by have := z.1; rw [lo_ref] at this; omega)]
  · obtain ⟨x, y, ep⟩ := d1.dk j a b
    exact ⟨x, y, by rw [List.getElem?_set_ne (by omega)]; exact ep⟩
  · rw [List.getElem?_set_ne (by omega), s1 j hj (by omega), List.getElem?_append_left jl]

end K24

namespace K24
open PySem L2 Ev
def stepQ : List Q → Tk → List Q
  | st, .leaf q => q :: st
  | q :: st, .nt => .not q :: st
  | q :: st, .lk e r => .link e r q :: st
  | b :: a :: st, .bn o => .bin o a b :: st
  | st, _ => st
def Q.wt : Q → Nat
  | .not q => q.wt + 2
  | .bin _ a b => a.wt + b.wt + 2
  | .link _ _ q => q.wt + 7
  | _ => 12
def Tk.wt : Tk → Nat
  | .leaf _ => 12
  | .nt => 2
  | .bn _ => 2
  | .lk _ _ => 7
/-- every leaf is one that is drawn -/
def Q.good : Q → Bool
  | .not q => q.good
  | .bin _ a b => a.good && b.good
  | .link _ _ q => q.good
  | q => q.leaf
def Q.flat : Q → Bool
  | .not q => q.flat
  | .bin _ a b => a.flat && b.flat
  | .link _ _ _ => false
  | _ => true
def wtT (ts : List Tk) : Nat := (ts.map Tk.wt).sum
def wtQ (qs : List Q) : Nat := (qs.map Q.wt).sum
theorem leaf_good {q : Q} (h : q.leaf = true) : q.good = true ∧ q.flat = true ∧ q.wt = 12 := by
  cases q <;> simp [Q.leaf, Q.good, Q.flat, Q.wt] at h ⊢
  exact h
theorem fold_run {a b : Int} {ts : List Tk} (r : Run a ts b) : ∀ st : List Q, (st.length : Int) = a → ((ts.foldl stepQ st).length : Int) = b ∧ wtQ (ts.foldl stepQ st) = wtQ st + wtT ts ∧ ((∀ q ∈ st, q.good = true) → ∀ q ∈ ts.foldl stepQ st, q.good = true) ∧ ((∀ t ∈ ts, t.isLk = false) → (∀ q ∈ st, q.flat = true) → ∀ q ∈ ts.foldl stepQ st, q.flat = true) := by
  induction r with
  | nil a => intro st h; exact ⟨h, by simp [wtT], fun k => k, fun _ k => k⟩
  | @leaf a b q ts l k ih =>
    intro st h
    obtain ⟨g1, g2, g3⟩ := leaf_good l
    obtain ⟨i1, i2, i3, i4⟩ := ih (q :: st) (by simp; omega)
    refine ⟨i1, ?_, fun z => i3 ?_, fun z w => i4 (fun t ht => z t (by simp [ht])) ?_⟩
    · rw [List.foldl_cons]; show wtQ (ts.foldl stepQ (q :: st)) = _
      rw [i2]; simp [wtQ, wtT, Tk.wt, g3]; omega
    · intro x hx; rcases List.mem_cons.mp hx with rfl | hx; exact g1; exact z x hx
    · intro x hx; rcases List.mem_cons.mp hx with rfl | hx; exact g2; exact w x hx
  | @nt a b ts g k ih =>
    intro st h
    cases st with
    | nil => simp at h; omega
    | cons q st =>
      obtain ⟨i1, i2, i3, i4⟩ := ih (.not q :: st) (by simpa using h)
      refine ⟨i1, ?_, fun z => i3 ?_, fun z w => i4 (fun t ht => z t (by simp [ht])) ?_⟩
      · rw [List.foldl_cons]; show wtQ (ts.foldl stepQ (.not q :: st)) = _
        rw [i2]; simp [wtQ, wtT, Tk.wt, Q.wt]; omega
      · intro x hx; rcases List.mem_cons.mp hx with rfl | hx; simpa [Q.good] using z q (by simp); exact z x (by simp [hx])
      · intro x hx; rcases List.mem_cons.mp hx with rfl | hx; simpa [Q.flat] using w q (by simp); exact w x (by simp [hx])
  | @lk a b e r ts g k ih =>
    intro st h
    cases st with
    | nil => simp at h; omega
    | cons q st =>
      obtain ⟨i1, i2, i3, i4⟩ := ih (.link e r q :: st) (by simpa using h)
      refine ⟨i1, ?_, fun z => i3 ?_, fun z w => ?_⟩
      · rw [List.foldl_cons]; show wtQ (ts.foldl stepQ (.link e r q :: st)) = _
        rw [i2]; simp [wtQ, wtT, Tk.wt, Q.wt]; omega
      · intro x hx; rcases List.mem_cons.mp hx with rfl | hx; simpa [Q.good] using z q (by simp); exact z x (by simp [hx])
      · have := z (.lk e r) (by simp); simp [Tk.isLk] at this
  | @bn a b o ts g k ih =>
    intro st h
    match st, h with
    | [], h => simp at h; omega
    | [_], h => simp at h; omega
    | y :: x :: st, h =>
      obtain ⟨i1, i2, i3, i4⟩ := ih (.bin o x y :: st) (by simp at h ⊢; omega)
      refine ⟨i1, ?_, fun z => i3 ?_, fun z w => i4 (fun t ht => z t (by simp [ht])) ?_⟩
      · rw [List.foldl_cons]; show wtQ (ts.foldl stepQ (.bin o x y :: st)) = _
        rw [i2]; simp [wtQ, wtT, Tk.wt, Q.wt]; omega
      · intro u hx; rcases List.mem_cons.mp hx with rfl | hx
        · simp only [Q.good, Bool.and_eq_true]; exact ⟨z x (by simp), z y (by simp)⟩
        · exact z u (by simp [hx])
      · intro u hx; rcases List.mem_cons.mp hx with rfl | hx
        · simp only [Q.flat, Bool.and_eq_true]; exact ⟨w x (by simp), w y (by simp)⟩
        · exact w u (by simp [hx])
/-- the query of a code -/
theorem run_query {ts : List Tk} (r : Run 0 ts 1) : ∃ q, ts.foldl stepQ [] = [q] ∧ q.wt = wtT ts ∧ q.good = true ∧ ((∀ t ∈ ts, t.isLk = false) → q.flat = true) := by
  obtain ⟨i1, i2, i3, i4⟩ := fold_run r [] rfl
  obtain ⟨q, hq⟩ : ∃ q, ts.foldl stepQ [] = [q] := List.length_eq_one_iff.mp (by omega)
  rw [hq] at i2 i3 i4
  exact ⟨q, hq, by simpa [wtQ] using i2, i3 (by simp) q (by simp), fun z => i4 z (by simp) q (by simp)⟩
def CodeAt (h : Hd) (x : D) (ts : List Tk) : Prop := x = .lst (ts.map Tk.d) ∨ ∃ K, x = .ref K ∧ h[K]? = some (.lst (ts.map Tk.d))
theorem CodeAt.app {h : Hd} {x : D} {ts : List Tk} (l : Hd) (c : CodeAt h x ts) : CodeAt (h ++ l) x ts := by
  rcases c with rfl | ⟨K, rfl, e⟩
  · exact .inl rfl
  · exact .inr ⟨K, rfl, by rw [List.getElem?_append_left (List.getElem?_eq_some_iff.mp e).1]; exact e⟩
theorem CodeAt.iter {h : Hd} {x : D} {ts : List Tk} (c : CodeAt h x ts) : ∃ src : Src, (∀ l, dIter x (h ++ l) = .ok src (h ++ l)) ∧ src.items = ts.map Tk.d ∧ ∀ l, src.ok (h ++ l) := by
  rcases c with rfl | ⟨K, rfl, e⟩
  · exact ⟨⟨ts.map Tk.d, none⟩, fun l => rfl, rfl, fun l => trivial⟩
  · have e' : ∀ l : Hd, (h ++ l)[K]? = some (.lst (ts.map Tk.d)) := fun l => by rw [List.getElem?_append_left (List.getElem?_eq_some_iff.mp e).1]; exact e
    exact ⟨⟨ts.map Tk.d, some (K, ts.map Tk.d)⟩, fun l => by simp [dIter, e'], rfl, fun l => by unfold Src.ok; simp [e']⟩
/-! ### the tree -/
noncomputable abbrev trBody : MS := (sIf (tCmp (mOp (dIn false) (mOp dIx (mVar 2) (mC (.int 0))) (mTup (aCons (mC (.str [97, 110, 100])) (aCons (mC (.str [111, 114])) aNil)))))
  (sSeq (sSet 3 (mMt kPop (mVar 1) aNil))
  (sSeq (sSet 4 (mMt kPop (mVar 1) aNil))
  (sExpr (mMt kAppend (mVar 1) (aCons (mTup (aCons (mOp dIx (mVar 2) (mC (.int 0))) (aCons (mVar 4) (aCons (mVar 3) aNil)))) aNil)))))
  (sIf (tCmp (mOp (dIn false) (mOp dIx (mVar 2) (mC (.int 0))) (mTup (aCons (mC (.str [110, 111, 116])) (aCons (mC (.str [115, 111, 109, 101])) (aCons (mC (.str [101, 118, 101, 114, 121])) aNil))))))
  (sSeq (sSet 5 (mMt kPop (mVar 1) aNil))
  (sExpr (mMt kAppend (mVar 1) (aCons (mOp (dAdd false) (mVar 2) (mTup (aCons (mVar 5) aNil))) aNil))))
  (sExpr (mMt kAppend (mVar 1) (aCons (mVar 2) aNil)))))
theorem rev_snoc (f : Q → D) (q : Q) (st : List Q) : (q :: st).reverse.map f = st.reverse.map f ++ [f q] := by simp
theorem tr_step {cl : Calls} {b : Hd} {x0 x3 x4 x5 : Option D} {t : Tk} {st : List Q} {a c : Int} (r : Run a [t] c) (ha : (st.length : Int) = a) (hz : st.length ≤ 1000000) : ∃ y3 y4 y5, trBody cl [x0, some (.ref b.length), some t.d, x3, x4, x5] (b ++ [.lst (st.reverse.map Q.d)]) = .nx [x0, some (.ref b.length), some t.d, y3, y4, y5] (b ++ [.lst ((stepQ st t).reverse.map Q.d)]) := by
  have hzr : st.reverse.length ≤ 1000000 := by simpa using hz
  have app : ∀ (us : List Q) (y3 y4 y5 : Option D) (m : M) (q : Q), us.length ≤ 1000000 → (∀ h, m cl [x0, some (.ref b.length), some t.d, y3, y4, y5] h = .ok q.d h) → sExpr (mMt kAppend (mVar 1) (aCons m aNil)) cl [x0, some (.ref b.length), some t.d, y3, y4, y5] (b ++ [.lst (us.reverse.map Q.d)]) = .nx [x0, some (.ref b.length), some t.d, y3, y4, y5] (b ++ [.lst ((q :: us).reverse.map Q.d)]) := by
    intro us y3 y4 y5 m q hu em
    have := append_at (c := cl) (t := [x0, some (.ref b.length), some t.d, y3, y4, y5]) (h := b ++ [.lst (us.reverse.map Q.d)]) (i := 1) (L := b.length) (m := m) (d := q.d) (xs := us.reverse.map Q.d) rfl (get_last b _) (em _) (get_last b _) (by simp; omega)
    rw [this, set_last, rev_snoc]
  have pop : ∀ (us : List Q) (q : Q) (y3 y4 y5 : Option D), mMt kPop (mVar 1) aNil cl [x0, some (.ref b.length), some t.d, y3, y4, y5] (b ++ [.lst ((q :: us).reverse.map Q.d)]) = .ok q.d (b ++ [.lst (us.reverse.map Q.d)]) := by
    intro us q y3 y4 y5
    have := pop_at (c := cl) (t := [x0, some (.ref b.length), some t.d, y3, y4, y5]) (i := 1) (L := b.length) (ys := us.reverse.map Q.d) (y := q.d) rfl (get_last b _)
    rw [rev_snoc, this, set_last]
  cases r with
  | @leaf _ _ q _ l k =>
    refine ⟨x3, x4, x5, ?_⟩
    have := app st x3 x4 x5 (mVar 2) q hz (fun h => rfl)
    show trBody cl _ _ = .nx _ (b ++ [.lst ((q :: st).reverse.map Q.d)])
    rw [← this]
    generalize b ++ [O.lst (st.reverse.map Q.d)] = h1
    cases q with
    | pl p => cases p <;> simp [Tk.d, Q.d, Pl.w, ix0, in_w2, in_w3]
    | is f n => simp [Tk.d, Q.d, ix0, in_w2, in_w3]
    | num f s bb => simp [Tk.d, Q.d, ix0, in_w2, in_w3]
    | _ => simp [Q.leaf] at l
  | nt g k =>
    cases st with
    | nil => simp at ha; omega
    | cons q st =>
      simp at hz
      have p := pop st q x3 x4 x5
      have ap := app st x3 x4 (some q.d) (mOp (dAdd false) (mVar 2) (mTup (aCons (mVar 5) aNil))) (.not q) (by omega) (fun h => by simp [Tk.d, Q.d, dAdd])
      have e1 : ∀ h, tCmp (mOp (dIn false) (mOp dIx (mVar 2) (mC (.int 0))) (mTup (aCons (mC (.str [97, 110, 100])) (aCons (mC (.str [111, 114])) aNil)))) cl [x0, some (.ref b.length), some Tk.nt.d, x3, x4, x5] h = .ok false h := fun h => by simp [Tk.d, ix0, in_w2]
      have e2 : ∀ h, tCmp (mOp (dIn false) (mOp dIx (mVar 2) (mC (.int 0))) (mTup (aCons (mC (.str [110, 111, 116])) (aCons (mC (.str [115, 111, 109, 101])) (aCons (mC (.str [101, 118, 101, 114, 121])) aNil))))) cl [x0, some (.ref b.length), some Tk.nt.d, x3, x4, x5] h = .ok true h := fun h => by simp [Tk.d, ix0, in_w3]
      refine ⟨x3, x4, some q.d, ?_⟩
      unfold trBody
      rw [sIf_ev, e1, toS_ok, if_neg (by decide), sIf_ev, e2, toS_ok, if_pos rfl, sSeq_ev, sSet_ev, p, toS_ok, seq_nx]
      exact ap
  | @lk _ _ e r _ g k =>
    cases st with
    | nil => simp at ha; omega
    | cons q st =>
      simp at hz
      have p := pop st q x3 x4 x5
      have ap := app st x3 x4 (some q.d) (mOp (dAdd false) (mVar 2) (mTup (aCons (mVar 5) aNil))) (.link e r q) (by omega) (fun h => by simp [Tk.d, Q.d, dAdd])
      have e1 : ∀ h, tCmp (mOp (dIn false) (mOp dIx (mVar 2) (mC (.int 0))) (mTup (aCons (mC (.str [97, 110, 100])) (aCons (mC (.str [111, 114])) aNil)))) cl [x0, some (.ref b.length), some (Tk.lk e r).d, x3, x4, x5] h = .ok false h := fun h => by cases e <;> simp [Tk.d, lw, ix0, in_w2]
      have e2 : ∀ h, tCmp (mOp (dIn false) (mOp dIx (mVar 2) (mC (.int 0))) (mTup (aCons (mC (.str [110, 111, 116])) (aCons (mC (.str [115, 111, 109, 101])) (aCons (mC (.str [101, 118, 101, 114, 121])) aNil))))) cl [x0, some (.ref b.length), some (Tk.lk e r).d, x3, x4, x5] h = .ok true h := fun h => by cases e <;> simp [Tk.d, lw, ix0, in_w3]
      refine ⟨x3, x4, some q.d, ?_⟩
      unfold trBody
      rw [sIf_ev, e1, toS_ok, if_neg (by decide), sIf_ev, e2, toS_ok, if_pos rfl, sSeq_ev, sSet_ev, p, toS_ok, seq_nx]
      exact ap
  | @bn _ _ o _ g k =>
    match st, ha with
    | [], ha => simp at ha; omega
    | [_], ha => simp at ha; omega
    | y :: x :: st, ha =>
      simp at hz
      have p1 := pop (x :: st) y x3 x4 x5
      have p2 := pop st x (some y.d) x4 x5
      have ap := app st (some y.d) (some x.d) x5 (mTup (aCons (mOp dIx (mVar 2) (mC (.int 0))) (aCons (mVar 4) (aCons (mVar 3) aNil)))) (.bin o x y) (by omega) (fun h => by simp [Tk.d, Q.d, ix0])
      have e1 : ∀ h, tCmp (mOp (dIn false) (mOp dIx (mVar 2) (mC (.int 0))) (mTup (aCons (mC (.str [97, 110, 100])) (aCons (mC (.str [111, 114])) aNil)))) cl [x0, some (.ref b.length), some (Tk.bn o).d, x3, x4, x5] h = .ok true h := fun h => by cases o <;> simp [Tk.d, bw, ix0, in_w2]
      refine ⟨some y.d, some x.d, x5, ?_⟩
      unfold trBody
      rw [sIf_ev, e1, toS_ok, if_pos rfl, sSeq_ev, sSet_ev, p1, toS_ok, seq_nx]
      show (sSeq (sSet 4 (mMt kPop (mVar 1) aNil)) _ cl [x0, some (.ref b.length), some (Tk.bn o).d, some y.d, x4, x5] (b ++ [.lst ((x :: st).reverse.map Q.d)])) = _
      rw [sSeq_ev, sSet_ev, p2, toS_ok, seq_nx]
      exact ap
theorem Run.split {a b : Int} {t : Tk} {ts : List Tk} (r : Run a (t :: ts) b) : ∃ m, Run a [t] m ∧ Run m ts b := by
  cases r with
  | leaf l k => exact ⟨_, .leaf l (.nil _), k⟩
  | nt g k => exact ⟨_, .nt g (.nil _), k⟩
  | lk g k => exact ⟨_, .lk g (.nil _), k⟩
  | bn g k => exact ⟨_, .bn g (.nil _), k⟩
theorem stepQ_len (st : List Q) (t : Tk) : (stepQ st t).length ≤ st.length + 1 := by
  unfold stepQ
  split <;> simp
theorem ixl0 {x : D} {r : List D} {h : Hd} {K : Nat} (e : h[K]? = some (.lst (x :: r))) : dIx (.ref K) (.int 0) h = .ok x h := by
  simp [dIx, dIxS, D.dict?, D.see, e, ixI]
theorem c_tree {n : Nat} {x : D} {ts : List Tk} {q : Q} {h : Hd} (hn : 1 ≤ n) (hx : CodeAt h x ts) (r : Run 0 ts 1) (hq : ts.foldl stepQ [] = [q]) (hl : ts.length ≤ 100000) : callN T n 16 [x] h = .ok q.d h := by
  obtain ⟨m, rfl⟩ := lvl hn
  rw [call_at (F := ⟨1, 6, b__law_tree⟩) rfl]
  generalize callN T m = cl
  obtain ⟨src, i1, i2, i3⟩ := hx.iter
  have ea : ([x].map some ++ List.replicate (6 - 1) (none : Option D)) = [some x, none, none, none, none, none] := rfl
  rw [runFn_at (np := 1) (nn := 6) rfl ea]
  have hbd : b__law_tree = sSeq (sSet 1 (mLst true aNil)) (sSeq (sFor (iVal (mVar 0)) (.nm 2) trBody) (sRet (mOp dIx (mVar 1) (mC (.int 0))))) := rfl
  have s1 : sSet 1 (mLst true aNil) cl [some x, none, none, none, none, none] h = .nx [some x, some (.ref h.length), none, none, none, none] (h ++ [.lst []]) := by simp
  have hi : iVal (mVar 0) cl [some x, some (.ref h.length), none, none, none, none] (h ++ [.lst []]) = .ok src (h ++ [.lst []]) := by
    rw [iVal_ev, mVar_ev]; exact i1 _
  obtain ⟨t', ef, et⟩ := sFor_gen (b := trBody) (g := .nm 2) (I := fun ds t h' => ∃ (st : List Q) (us : List Tk) (x2 x3 x4 x5 : Option D), ds = us.map Tk.d ∧ t = [some x, some (.ref h.length), x2, x3, x4, x5] ∧ h' = h ++ [.lst (st.reverse.map Q.d)] ∧ Run st.length us 1 ∧ us.foldl stepQ st = [q] ∧ st.length + us.length ≤ 100000)
    (O := fun y => ∃ t', y = .nx t' (h ++ [.lst [q.d]]) ∧ t'[1]? = some (some (.ref h.length))) hi
    (by
      rintro d ds t h' ⟨st, us, x2, x3, x4, x5, hr, rfl, rfl, rn, hf, hz⟩
      cases us with
      | nil => simp at hr
      | cons u us =>
        rw [List.map_cons] at hr
        obtain ⟨rfl, rfl⟩ := List.cons.inj hr
        obtain ⟨mm, r1, r2⟩ := rn.split
        obtain ⟨y3, y4, y5, e⟩ := tr_step (cl := cl) (b := h) (x0 := some x) (x3 := x3) (x4 := x4) (x5 := x5) r1 rfl (by simp at hz; omega)
        refine ⟨i3 _, [some x, some (.ref h.length), some u.d, x3, x4, x5], rfl, ?_⟩
        rw [e]
        have hm := (fold_run r1 st rfl).1
        have hsl := stepQ_len st u
        exact .nx ⟨stepQ st u, us, _, _, _, _, rfl, rfl, rfl, by rw [show ((stepQ st u).length : Int) = mm from hm]; exact r2, hf, by simp at hz; omega⟩)
    (by
      rintro t h' ⟨st, us, x2, x3, x4, x5, hr, rfl, rfl, rn, hf, hz⟩
      cases us with
      | cons u us => simp at hr
      | nil =>
        have : st = [q] := hf
        subst this
        exact ⟨i3 _, [some x, some (.ref h.length), x2, x3, x4, x5], rfl, rfl⟩)
    ⟨[], ts, none, none, none, none, i2, rfl, rfl, r, hq, by simpa using hl⟩
  rw [hbd, sSeq_ev, s1, seq_nx, sSeq_ev, ef, seq_nx]
  simp only [sRet_ev, mOp_ev, mVar_ev, et, bind_ok, mC_ev, ixl0 (get_last h (.lst [q.d])), toS_ok, fin_rt]
  exact fin1_app (q.lo _)
end K24

namespace K24
open PySem L2 Ev
theorem c_lleast {n : Nat} {f : Bool} {b : Int} {h : Hd} (hn : 1 ≤ n) : callN T n 19 [.str (fw f), .int b] h = .ok (atLeast f b).d h := by
  obtain ⟨m, rfl⟩ := lvl hn
  rw [call_at (F := ⟨2, 2, b__law_least⟩) rfl]
  generalize callN T m = c
  by_cases h1 : b ≤ 0
  · simp [runFn, b__law_least, dCmp, h1, fin1_same, atLeast, C.d, Pl.w]
  · by_cases h2 : 20 < b
    · have : topf f < b := by cases f <;> simp [topf] <;> omega
      simp [runFn, b__law_least, dCmp, h1, h2, fin1_same, atLeast, C.d, Pl.w, this]
    · cases f with
      | false =>
        have : ¬ topf false < b := by simp [topf]; omega
        simp [runFn, b__law_least, dCmp, h1, h2, fw, eq_w, fin1_same, atLeast, C.d, this]
      | true =>
        by_cases h3 : 4 < b
        · have : topf true < b := by simp [topf]; omega
          simp [runFn, b__law_least, dCmp, h1, h2, h3, fw, eq_w, fin1_same, atLeast, C.d, Pl.w, this]
        · have : ¬ topf true < b := by simp [topf]; omega
          simp [runFn, b__law_least, dCmp, h1, h2, h3, fw, eq_w, fin1_same, atLeast, C.d, this]
noncomputable abbrev lcBody : MS := (sSeq (sSet 3 (mOp dIx (mVar 2) (mC (.int 0))))
  (sIf (tCmp (mOp (dIn false) (mVar 3) (mTup (aCons (mC (.str [97, 110, 100])) (aCons (mC (.str [111, 114])) aNil)))))
  (sSeq (sSet 4 (mMt kPop (mVar 1) aNil))
  (sSeq (sSet 5 (mMt kPop (mVar 1) aNil))
  (sExpr (mMt kAppend (mVar 1) (aCons (mTup (aCons (mVar 3) (aCons (mVar 5) (aCons (mVar 4) aNil)))) aNil)))))
  (sIf (tCmp (mOp (dEq false) (mVar 3) (mC (.str [101, 118, 101, 114, 121]))))
  (sSeq (sSet 6 (mMt kPop (mVar 1) aNil))
  (sExpr (mMt kAppend (mVar 1) (aCons (mTup (aCons (mC (.str [110, 111, 116])) (aCons (mTup (aCons (mC (.str [115, 111, 109, 101])) (aCons (mOp dIx (mVar 2) (mC (.int 1))) (aCons (mTup (aCons (mC (.str [110, 111, 116])) (aCons (mVar 6) aNil))) aNil)))) aNil))) aNil))))
  (sIf (tCmp (mOp (dIn false) (mVar 3) (mTup (aCons (mC (.str [110, 111, 116])) (aCons (mC (.str [115, 111, 109, 101])) aNil)))))
  (sSeq (sSet 6 (mMt kPop (mVar 1) aNil))
  (sExpr (mMt kAppend (mVar 1) (aCons (mOp (dAdd false) (mVar 2) (mTup (aCons (mVar 6) aNil))) aNil))))
  (sIf (tCmp (mOp (dEq false) (mVar 3) (mC (.str [110, 117, 109]))))
  (sSeq (sSet 7 (mCall 19 (aCons (mOp dIx (mVar 2) (mC (.int 1))) (aCons (mOp dIx (mVar 2) (mC (.int 3))) aNil))))
  (sSeq (sSet 8 (mCall 19 (aCons (mOp dIx (mVar 2) (mC (.int 1))) (aCons (mOp (dAdd false) (mOp dIx (mVar 2) (mC (.int 3))) (mC (.int 1))) aNil))))
  (sSeq (sSet 9 (mLst false (aCons (mTup (aCons (mC (.str [97, 110, 100])) (aCons (mVar 7) (aCons (mTup (aCons (mC (.str [110, 111, 116])) (aCons (mVar 8) aNil))) aNil)))) (aCons (mTup (aCons (mC (.str [110, 111, 116])) (aCons (mVar 7) aNil))) (aCons (mVar 8) (aCons (mTup (aCons (mC (.str [110, 111, 116])) (aCons (mVar 8) aNil))) (aCons (mVar 7) aNil)))))))
  (sExpr (mMt kAppend (mVar 1) (aCons (mOp dIx (mVar 9) (mMt kIndex (mLst false (aCons (mC (.str [61])) (aCons (mC (.str [60])) (aCons (mC (.str [62])) (aCons (mC (.str [60, 61])) (aCons (mC (.str [62, 61])) aNil)))))) (aCons (mOp dIx (mVar 2) (mC (.int 2))) aNil))) aNil))))))
  (sExpr (mMt kAppend (mVar 1) (aCons (mVar 2) aNil))))))))
abbrev cD (q : Q) : D := (core q).d
theorem sg_index {cl : Calls} {t : Tau} {h : Hd} {s : Sg} {ma : M} (ea : ma cl t h = .ok (.str s.w) h) : mMt kIndex (mLst false (aCons (mC (.str [61])) (aCons (mC (.str [60])) (aCons (mC (.str [62])) (aCons (mC (.str [60, 61])) (aCons (mC (.str [62, 61])) aNil)))))) (aCons ma aNil) cl t h = .ok (.int (match s with | .eq => 0 | .lt => 1 | .gt => 2 | .le => 3 | .ge => 4)) h := by
  have : ∀ (l : List D) (y : D) (k : Nat), cmpOk y (.lst l) = true → D.has l y = true → Ev.placeOf l y = k → fIndexL (.lst l) [y] h = .ok (.int (k : Nat)) h := by
    intro l y k h1 h2 h3
    unfold fIndexL
    have : kindOf (.lst l) h = some .list := rfl
    simp only [this]
    unfold fIndex
    simp only [D.see]
    rw [if_pos ⟨h1, h2⟩, h3]
  simp only [mMt_ev, mLst_ev, aCons_ev, mC_ev, bind_ok, aNil_ev]
  rw [freshF _ (by simp), bind_ok]
  have k1 : kindOf (.lst [D.str [61], .str [60], .str [62], .str [60, 61], .str [62, 61]]) h = some .list := rfl
  have k2 : kIndex .list = some fIndexL := rfl
  simp only [k1, k2, ea, bind_ok]
  cases s
  · exact this _ _ 0 (by simp [cmpOk, near, D.plain, D.plainA, D.dep, D.depA, Sg.w]) (by simp [has_str, Sg.w]) (by simp [Ev.placeOf, Sg.w])
  · exact this _ _ 1 (by simp [cmpOk, near, D.plain, D.plainA, D.dep, D.depA, Sg.w]) (by simp [has_str, Sg.w]) (by simp [Ev.placeOf, Sg.w, List.idxOf_cons])
  · exact this _ _ 2 (by simp [cmpOk, near, D.plain, D.plainA, D.dep, D.depA, Sg.w]) (by simp [has_str, Sg.w]) (by simp [Ev.placeOf, Sg.w, List.idxOf_cons])
  · exact this _ _ 3 (by simp [cmpOk, near, D.plain, D.plainA, D.dep, D.depA, Sg.w]) (by simp [has_str, Sg.w]) (by simp [Ev.placeOf, Sg.w, List.idxOf_cons])
  · exact this _ _ 4 (by simp [cmpOk, near, D.plain, D.plainA, D.dep, D.depA, Sg.w]) (by simp [has_str, Sg.w]) (by simp [Ev.placeOf, Sg.w, List.idxOf_cons])
theorem lc_step {n : Nat} (hn : 1 ≤ n) {b : Hd} {x0 x3 x4 x5 x6 x7 x8 x9 : Option D} {t : Tk} {st : List Q} {a c : Int} (r : Run a [t] c) (ha : (st.length : Int) = a) (hz : st.length ≤ 1000000) : ∃ y3 y4 y5 y6 y7 y8 y9, lcBody (callN T n) [x0, some (.ref b.length), some t.d, x3, x4, x5, x6, x7, x8, x9] (b ++ [.lst (st.reverse.map cD)]) = .nx [x0, some (.ref b.length), some t.d, y3, y4, y5, y6, y7, y8, y9] (b ++ [.lst ((stepQ st t).reverse.map cD)]) := by
  have hl : ∀ f b h, callN T n 19 [.str (fw f), .int b] h = .ok (atLeast f b).d h := fun f b h => c_lleast hn
  generalize callN T n = cl at hl ⊢
  have app : ∀ (us : List Q) (y3 y4 y5 y6 y7 y8 y9 : Option D) (m : M) (q : Q), us.length ≤ 1000000 → (∀ h, m cl [x0, some (.ref b.length), some t.d, y3, y4, y5, y6, y7, y8, y9] h = .ok (cD q) h) → sExpr (mMt kAppend (mVar 1) (aCons m aNil)) cl [x0, some (.ref b.length), some t.d, y3, y4, y5, y6, y7, y8, y9] (b ++ [.lst (us.reverse.map cD)]) = .nx [x0, some (.ref b.length), some t.d, y3, y4, y5, y6, y7, y8, y9] (b ++ [.lst ((q :: us).reverse.map cD)]) := by
    intro us y3 y4 y5 y6 y7 y8 y9 m q hu em
    have := append_at (c := cl) (t := [x0, some (.ref b.length), some t.d, y3, y4, y5, y6, y7, y8, y9]) (h := b ++ [.lst (us.reverse.map cD)]) (i := 1) (L := b.length) (m := m) (d := cD q) (xs := us.reverse.map cD) rfl (get_last b _) (em _) (get_last b _) (by simp; omega)
    rw [this, set_last, rev_snoc]
  have pop : ∀ (us : List Q) (q : Q) (y3 y4 y5 y6 y7 y8 y9 : Option D), mMt kPop (mVar 1) aNil cl [x0, some (.ref b.length), some t.d, y3, y4, y5, y6, y7, y8, y9] (b ++ [.lst ((q :: us).reverse.map cD)]) = .ok (cD q) (b ++ [.lst (us.reverse.map cD)]) := by
    intro us q y3 y4 y5 y6 y7 y8 y9
    have := pop_at (c := cl) (t := [x0, some (.ref b.length), some t.d, y3, y4, y5, y6, y7, y8, y9]) (i := 1) (L := b.length) (ys := us.reverse.map cD) (y := cD q) rfl (get_last b _)
    rw [rev_snoc, this, set_last]
  have w3 : ∀ (w : List Nat) (rr : List D) h, t.d = .tup (.str w :: rr) → sSet 3 (mOp dIx (mVar 2) (mC (.int 0))) cl [x0, some (.ref b.length), some t.d, x3, x4, x5, x6, x7, x8, x9] h = .nx [x0, some (.ref b.length), some t.d, some (.str w), x4, x5, x6, x7, x8, x9] h := by
    intro w rr h e
    rw [e]
    simp [ix0]
  have T1 : ∀ (w : List Nat) h, tCmp (mOp (dIn false) (mVar 3) (mTup (aCons (mC (.str [97, 110, 100])) (aCons (mC (.str [111, 114])) aNil)))) cl [x0, some (.ref b.length), some t.d, some (.str w), x4, x5, x6, x7, x8, x9] h = .ok (wAnd == w || wOr == w) h := fun w h => by simp [in_w2]
  have T2 : ∀ (w : List Nat) h, tCmp (mOp (dEq false) (mVar 3) (mC (.str [101, 118, 101, 114, 121]))) cl [x0, some (.ref b.length), some t.d, some (.str w), x4, x5, x6, x7, x8, x9] h = .ok (w == wEvery) h := fun w h => by simp [eq_w]
  have T3 : ∀ (w : List Nat) h, tCmp (mOp (dIn false) (mVar 3) (mTup (aCons (mC (.str [110, 111, 116])) (aCons (mC (.str [115, 111, 109, 101])) aNil)))) cl [x0, some (.ref b.length), some t.d, some (.str w), x4, x5, x6, x7, x8, x9] h = .ok (wNot == w || wSome == w) h := fun w h => by simp [in_w2]
  have T4 : ∀ (w : List Nat) h, tCmp (mOp (dEq false) (mVar 3) (mC (.str [110, 117, 109]))) cl [x0, some (.ref b.length), some t.d, some (.str w), x4, x5, x6, x7, x8, x9] h = .ok (w == wNum) h := fun w h => by simp [eq_w]
  unfold lcBody
  cases r with
  | @leaf _ _ q _ l k =>
    have other : ∀ (w : List Nat) (rr : List D), (Tk.leaf q).d = .tup (.str w :: rr) → (core q).d = q.d → w ≠ wAnd → w ≠ wOr → w ≠ wEvery → w ≠ wNot → w ≠ wSome → w ≠ wNum → ∃ y3 y4 y5 y6 y7 y8 y9, lcBody cl [x0, some (.ref b.length), some (Tk.leaf q).d, x3, x4, x5, x6, x7, x8, x9] (b ++ [.lst (st.reverse.map cD)]) = .nx [x0, some (.ref b.length), some (Tk.leaf q).d, y3, y4, y5, y6, y7, y8, y9] (b ++ [.lst ((stepQ st (.leaf q)).reverse.map cD)]) := by
      intro w rr e ec n1 n2 n3 n4 n5 n6
      refine ⟨some (.str w), x4, x5, x6, x7, x8, x9, ?_⟩
      unfold lcBody
      rw [sSeq_ev, w3 w rr _ e, seq_nx, sIf_ev, T1, toS_ok, if_neg (by simp [Ne.symm n1, Ne.symm n2]), sIf_ev, T2, toS_ok, if_neg (by simp [n3]), sIf_ev, T3, toS_ok, if_neg (by simp [Ne.symm n4, Ne.symm n5]), sIf_ev, T4, toS_ok, if_neg (by simp [n6])]
      exact app st (some (.str w)) x4 x5 x6 x7 x8 x9 (mVar 2) q hz (fun h => by show Res.ok (Tk.leaf q).d h = _; show Res.ok q.d h = .ok (cD q) h; rw [show cD q = q.d from ec])
    cases q with
    | pl p => exact other p.w [] rfl rfl (by cases p <;> simp [Pl.w]) (by cases p <;> simp [Pl.w]) (by cases p <;> simp [Pl.w]) (by cases p <;> simp [Pl.w]) (by cases p <;> simp [Pl.w]) (by cases p <;> simp [Pl.w])
    | is f nn => exact other wIs [.str f, .str nn] rfl rfl (by simp) (by simp) (by simp) (by simp) (by simp) (by simp)
    | num f s bb =>
      have a7 : ∀ h, sSet 7 (mCall 19 (aCons (mOp dIx (mVar 2) (mC (.int 1))) (aCons (mOp dIx (mVar 2) (mC (.int 3))) aNil))) cl [x0, some (.ref b.length), some (Tk.leaf (.num f s bb)).d, some (.str wNum), x4, x5, x6, x7, x8, x9] h = .nx [x0, some (.ref b.length), some (Tk.leaf (.num f s bb)).d, some (.str wNum), x4, x5, x6, some (atLeast f bb).d, x8, x9] h := by
        intro h
        have := hl f bb h
        simp only [sSet_ev, mCall_ev, aCons_ev, mOp_ev, mVar_ev, List.getElem?_cons_succ, List.getElem?_cons_zero, mC_ev, bind_ok, aNil_ev, Tk.d, Q.d, ix1, ix3, this, toS_ok, List.set_cons_succ, List.set_cons_zero]
      have a8 : ∀ h, sSet 8 (mCall 19 (aCons (mOp dIx (mVar 2) (mC (.int 1))) (aCons (mOp (dAdd false) (mOp dIx (mVar 2) (mC (.int 3))) (mC (.int 1))) aNil))) cl [x0, some (.ref b.length), some (Tk.leaf (.num f s bb)).d, some (.str wNum), x4, x5, x6, some (atLeast f bb).d, x8, x9] h = .nx [x0, some (.ref b.length), some (Tk.leaf (.num f s bb)).d, some (.str wNum), x4, x5, x6, some (atLeast f bb).d, some (atLeast f (bb + 1)).d, x9] h := by
        intro h
        have := hl f (bb + 1) h
        have ad : dAdd false (.int bb) (.int 1) h = .ok (.int (bb + 1)) h := rfl
        simp only [sSet_ev, mCall_ev, aCons_ev, mOp_ev, mVar_ev, List.getElem?_cons_succ, List.getElem?_cons_zero, mC_ev, bind_ok, aNil_ev, Tk.d, Q.d, ix1, ix3, ad, this, toS_ok, List.set_cons_succ, List.set_cons_zero]
      obtain ⟨fs, hfs⟩ : ∃ fs : List D, fs = [(C.bin false (atLeast f bb) (.not (atLeast f (bb + 1)))).d, (C.not (atLeast f bb)).d, (atLeast f (bb + 1)).d, (C.not (atLeast f (bb + 1))).d, (atLeast f bb).d] := ⟨_, rfl⟩
      have a9 : ∀ h, sSet 9 (mLst false (aCons (mTup (aCons (mC (.str [97, 110, 100])) (aCons (mVar 7) (aCons (mTup (aCons (mC (.str [110, 111, 116])) (aCons (mVar 8) aNil))) aNil)))) (aCons (mTup (aCons (mC (.str [110, 111, 116])) (aCons (mVar 7) aNil))) (aCons (mVar 8) (aCons (mTup (aCons (mC (.str [110, 111, 116])) (aCons (mVar 8) aNil))) (aCons (mVar 7) aNil)))))) cl [x0, some (.ref b.length), some (Tk.leaf (.num f s bb)).d, some (.str wNum), x4, x5, x6, some (atLeast f bb).d, some (atLeast f (bb + 1)).d, x9] h = .nx [x0, some (.ref b.length), some (Tk.leaf (.num f s bb)).d, some (.str wNum), x4, x5, x6, some (atLeast f bb).d, some (atLeast f (bb + 1)).d, some (.lst fs)] h := by
        intro h
        rw [hfs]
        simp [C.d, bw]
      have em : ∀ h, mOp dIx (mVar 9) (mMt kIndex (mLst false (aCons (mC (.str [61])) (aCons (mC (.str [60])) (aCons (mC (.str [62])) (aCons (mC (.str [60, 61])) (aCons (mC (.str [62, 61])) aNil)))))) (aCons (mOp dIx (mVar 2) (mC (.int 2))) aNil)) cl [x0, some (.ref b.length), some (Tk.leaf (.num f s bb)).d, some (.str wNum), x4, x5, x6, some (atLeast f bb).d, some (atLeast f (bb + 1)).d, some (.lst fs)] h = .ok (cD (.num f s bb)) h := by
        intro h
        have ei := sg_index (cl := cl) (t := [x0, some (.ref b.length), some (Tk.leaf (.num f s bb)).d, some (.str wNum), x4, x5, x6, some (atLeast f bb).d, some (atLeast f (bb + 1)).d, some (.lst fs)]) (h := h) (s := s) (ma := mOp dIx (mVar 2) (mC (.int 2))) (by simp [Tk.d, Q.d, ix2])
        rw [mOp_ev, mVar_ev]
        simp only [List.getElem?_cons_succ, List.getElem?_cons_zero, bind_ok, ei]
        rw [hfs]
        cases s <;> simp [dIx, dIxS, D.dict?, D.see, ixI, cD, core, coreNum]
      refine ⟨some (.str wNum), x4, x5, x6, some (atLeast f bb).d, some (atLeast f (bb + 1)).d, some (.lst fs), ?_⟩
      rw [sSeq_ev, w3 wNum [.str (fw f), .str s.w, .int bb] _ rfl, seq_nx, sIf_ev, T1, toS_ok, if_neg (by simp), sIf_ev, T2, toS_ok, if_neg (by simp), sIf_ev, T3, toS_ok, if_neg (by simp), sIf_ev, T4, toS_ok, if_pos (by simp), sSeq_ev, a7, seq_nx, sSeq_ev, a8, seq_nx, sSeq_ev, a9, seq_nx]
      exact app st (some (.str wNum)) x4 x5 x6 (some (atLeast f bb).d) (some (atLeast f (bb + 1)).d) (some (.lst fs)) _ (.num f s bb) hz em
    | _ => simp [Q.leaf] at l
  | nt g k =>
    cases st with
    | nil => simp at ha; omega
    | cons q st =>
      simp at hz
      have p := pop st q (some (.str wNot)) x4 x5 x6 x7 x8 x9
      have ap := app st (some (.str wNot)) x4 x5 (some (cD q)) x7 x8 x9 (mOp (dAdd false) (mVar 2) (mTup (aCons (mVar 6) aNil))) (.not q) (by omega) (fun h => by simp [Tk.d, cD, core, C.d, dAdd])
      refine ⟨some (.str wNot), x4, x5, some (cD q), x7, x8, x9, ?_⟩
      rw [sSeq_ev, w3 wNot [] _ rfl, seq_nx, sIf_ev, T1, toS_ok, if_neg (by simp), sIf_ev, T2, toS_ok, if_neg (by simp), sIf_ev, T3, toS_ok, if_pos (by simp), sSeq_ev, sSet_ev, p, toS_ok, seq_nx]
      exact ap
  | @lk _ _ e rr _ g k =>
    cases st with
    | nil => simp at ha; omega
    | cons q st =>
      simp at hz
      cases e with
      | false =>
        have p := pop st q (some (.str wSome)) x4 x5 x6 x7 x8 x9
        have ap := app st (some (.str wSome)) x4 x5 (some (cD q)) x7 x8 x9 (mOp (dAdd false) (mVar 2) (mTup (aCons (mVar 6) aNil))) (.link false rr q) (by omega) (fun h => by simp [Tk.d, lw, cD, core, C.d, dAdd])
        refine ⟨some (.str wSome), x4, x5, some (cD q), x7, x8, x9, ?_⟩
        rw [sSeq_ev, w3 wSome [.str rr] _ rfl, seq_nx, sIf_ev, T1, toS_ok, if_neg (by simp), sIf_ev, T2, toS_ok, if_neg (by simp), sIf_ev, T3, toS_ok, if_pos (by simp), sSeq_ev, sSet_ev, p, toS_ok, seq_nx]
        exact ap
      | true =>
        have p := pop st q (some (.str wEvery)) x4 x5 x6 x7 x8 x9
        have ap := app st (some (.str wEvery)) x4 x5 (some (cD q)) x7 x8 x9 (mTup (aCons (mC (.str [110, 111, 116])) (aCons (mTup (aCons (mC (.str [115, 111, 109, 101])) (aCons (mOp dIx (mVar 2) (mC (.int 1))) (aCons (mTup (aCons (mC (.str [110, 111, 116])) (aCons (mVar 6) aNil))) aNil)))) aNil))) (.link true rr q) (by omega) (fun h => by simp [Tk.d, lw, cD, core, C.d, ix1])
        refine ⟨some (.str wEvery), x4, x5, some (cD q), x7, x8, x9, ?_⟩
        rw [sSeq_ev, w3 wEvery [.str rr] _ rfl, seq_nx, sIf_ev, T1, toS_ok, if_neg (by simp), sIf_ev, T2, toS_ok, if_pos (by simp), sSeq_ev, sSet_ev, p, toS_ok, seq_nx]
        exact ap
  | @bn _ _ o _ g k =>
    match st, ha with
    | [], ha => simp at ha; omega
    | [_], ha => simp at ha; omega
    | y :: x :: st, ha =>
      simp at hz
      have p1 := pop (x :: st) y (some (.str (bw o))) x4 x5 x6 x7 x8 x9
      have p2 := pop st x (some (.str (bw o))) (some (cD y)) x5 x6 x7 x8 x9
      have ap := app st (some (.str (bw o))) (some (cD y)) (some (cD x)) x6 x7 x8 x9 (mTup (aCons (mVar 3) (aCons (mVar 5) (aCons (mVar 4) aNil)))) (.bin o x y) (by omega) (fun h => by simp [cD, core, C.d])
      refine ⟨some (.str (bw o)), some (cD y), some (cD x), x6, x7, x8, x9, ?_⟩
      rw [sSeq_ev, w3 (bw o) [] _ rfl, seq_nx, sIf_ev, T1, toS_ok, if_pos (by cases o <;> simp [bw]), sSeq_ev, sSet_ev, p1, toS_ok, seq_nx]
      show (sSeq (sSet 5 (mMt kPop (mVar 1) aNil)) _ cl [x0, some (.ref b.length), some (Tk.bn o).d, some (.str (bw o)), some (cD y), x5, x6, x7, x8, x9] (b ++ [.lst ((x :: st).reverse.map cD)])) = _
      rw [sSeq_ev, sSet_ev, p2, toS_ok, seq_nx]
      exact ap
theorem c_lcore {n : Nat} {x : D} {ts : List Tk} {q : Q} {h : Hd} (hn : 2 ≤ n) (hx : CodeAt h x ts) (r : Run 0 ts 1) (hq : ts.foldl stepQ [] = [q]) (hl : ts.length ≤ 100000) : callN T n 20 [x] h = .ok (core q).d h := by
  obtain ⟨m, rfl⟩ := lvl hn
  rw [call_at (F := ⟨1, 10, b__law_core⟩) rfl]
  have stp := fun b x0 x3 x4 x5 x6 x7 x8 x9 t st a c r ha hz => lc_step (n := m + 1) (by omega) (b := b) (x0 := x0) (x3 := x3) (x4 := x4) (x5 := x5) (x6 := x6) (x7 := x7) (x8 := x8) (x9 := x9) (t := t) (st := st) (a := a) (c := c) r ha hz
  generalize callN T (m + 1) = cl at stp ⊢
  obtain ⟨src, i1, i2, i3⟩ := hx.iter
  have ea : ([x].map some ++ List.replicate (10 - 1) (none : Option D)) = [some x, none, none, none, none, none, none, none, none, none] := rfl
  rw [runFn_at (np := 1) (nn := 10) rfl ea]
  have hbd : b__law_core = sSeq (sSet 1 (mLst true aNil)) (sSeq (sFor (iVal (mVar 0)) (.nm 2) lcBody) (sRet (mOp dIx (mVar 1) (mC (.int 0))))) := rfl
  have s1 : sSet 1 (mLst true aNil) cl [some x, none, none, none, none, none, none, none, none, none] h = .nx [some x, some (.ref h.length), none, none, none, none, none, none, none, none] (h ++ [.lst []]) := by simp
  have hi : iVal (mVar 0) cl [some x, some (.ref h.length), none, none, none, none, none, none, none, none] (h ++ [.lst []]) = .ok src (h ++ [.lst []]) := by
    rw [iVal_ev, mVar_ev]; exact i1 _
  obtain ⟨t', ef, et⟩ := sFor_gen (b := lcBody) (g := .nm 2) (I := fun ds t h' => ∃ (st : List Q) (us : List Tk) (x2 x3 x4 x5 x6 x7 x8 x9 : Option D), ds = us.map Tk.d ∧ t = [some x, some (.ref h.length), x2, x3, x4, x5, x6, x7, x8, x9] ∧ h' = h ++ [.lst (st.reverse.map cD)] ∧ Run st.length us 1 ∧ us.foldl stepQ st = [q] ∧ st.length + us.length ≤ 100000)
    (O := fun y => ∃ t', y = .nx t' (h ++ [.lst [(core q).d]]) ∧ t'[1]? = some (some (.ref h.length))) hi
    (by
      rintro d ds t h' ⟨st, us, x2, x3, x4, x5, x6, x7, x8, x9, hr, rfl, rfl, rn, hf, hz⟩
      cases us with
      | nil => simp at hr
      | cons u us =>
        rw [List.map_cons] at hr
        obtain ⟨rfl, rfl⟩ := List.cons.inj hr
        obtain ⟨mm, r1, r2⟩ := rn.split
        obtain ⟨y3, y4, y5, y6, y7, y8, y9, e⟩ := stp h (some x) x3 x4 x5 x6 x7 x8 x9 u st _ _ r1 rfl (by simp at hz; omega)
        refine ⟨i3 _, [some x, some (.ref h.length), some u.d, x3, x4, x5, x6, x7, x8, x9], rfl, ?_⟩
        rw [e]
        have hm := (fold_run r1 st rfl).1
        have hsl := stepQ_len st u
        exact .nx ⟨stepQ st u, us, _, _, _, _, _, _, _, _, rfl, rfl, rfl, by rw [show ((stepQ st u).length : Int) = mm from hm]; exact r2, hf, by simp at hz; omega⟩)
    (by
      rintro t h' ⟨st, us, x2, x3, x4, x5, x6, x7, x8, x9, hr, rfl, rfl, rn, hf, hz⟩
      cases us with
      | cons u us => simp at hr
      | nil =>
        have : st = [q] := hf
        subst this
        exact ⟨i3 _, [some x, some (.ref h.length), x2, x3, x4, x5, x6, x7, x8, x9], rfl, rfl⟩)
    ⟨[], ts, none, none, none, none, none, none, none, none, i2, rfl, rfl, r, hq, by simpa using hl⟩
  rw [hbd, sSeq_ev, s1, seq_nx, sSeq_ev, ef, seq_nx]
  simp only [sRet_ev, mOp_ev, mVar_ev, et, bind_ok, mC_ev, ixl0 (get_last h (.lst [(core q).d])), toS_ok, fin_rt]
  exact fin1_app ((core q).lo _)
end K24

namespace K24
open PySem L2 Ev
/-! ### cuts -/
theorem cutL_map {α β : Type} (f : α → β) (xs : List α) (lo hi : Option Int) : cutL (xs.map f) lo hi = (cutL xs lo hi).map f := by
  unfold cutL
  rw [List.length_map, ← List.map_drop, ← List.map_take]
theorem cutL_take (xs : List D) {r : Int} (h1 : 0 ≤ r) : cutL xs none (some r) = xs.take r.toNat := by
  obtain ⟨k, rfl⟩ : ∃ k : Nat, r = k := ⟨r.toNat, by omega⟩
  unfold cutL
  rw [show cutI xs.length 0 none = 0 from rfl, List.drop_zero, Nat.sub_zero]
  have e2 : cutI xs.length xs.length (some (k : Int)) = min k xs.length := by
    unfold cutI
    simp only
    split <;> omega
  rw [e2, Int.toNat_natCast]
  by_cases q : k ≤ xs.length
  · rw [Nat.min_eq_left q]
  · rw [Nat.min_eq_right (by omega), List.take_of_length_le (by omega), List.take_of_length_le (by omega)]
theorem cutL_drop (xs : List D) {r : Int} (h1 : 0 ≤ r) : cutL xs (some r) none = xs.drop r.toNat := by
  obtain ⟨k, rfl⟩ : ∃ k : Nat, r = k := ⟨r.toNat, by omega⟩
  unfold cutL
  rw [show cutI xs.length xs.length none = xs.length from rfl]
  have e2 : cutI xs.length 0 (some (k : Int)) = min k xs.length := by
    unfold cutI
    simp only
    split <;> omega
  rw [e2, Int.toNat_natCast]
  by_cases q : k ≤ xs.length
  · rw [Nat.min_eq_left q, List.take_of_length_le (by rw [List.length_drop]; omega)]
  · rw [Nat.min_eq_right (by omega), List.drop_of_length_le (by omega), List.drop_of_length_le (by omega), List.take_nil]
theorem cut_take (xs : List D) {r : Int} (h : Hd) (h1 : 0 ≤ r) (hz : xs.length ≤ 1000000) : dCut false (.lst xs) none (some r) h = .ok (.lst (xs.take r.toNat)) h := by
  show fresh false (cutL xs none (some r)) h = _
  rw [cutL_take xs h1, freshF _ (by rw [List.length_take]; omega)]
theorem cut_drop (xs : List D) {r : Int} (h : Hd) (h1 : 0 ≤ r) (hz : xs.length ≤ 1000000) : dCut false (.lst xs) (some r) none h = .ok (.lst (xs.drop r.toNat)) h := by
  show fresh false (cutL xs (some r) none) h = _
  rw [cutL_drop xs h1, freshF _ (by rw [List.length_drop]; omega)]
theorem dCut_ref {m : Bool} {i : Nat} {xs : List D} {h : Hd} (e : h[i]? = some (.lst xs)) (lo hi : Option Int) : dCut m (.ref i) lo hi h = dCut m (.lst xs) lo hi h := by
  simp [dCut, D.see, e]
theorem add_ref {i : Nat} {xs ys : List D} {h : Hd} (e : h[i]? = some (.lst xs)) (hz : xs.length + ys.length ≤ 16777216) : dAdd false (.ref i) (.lst ys) h = .ok (.lst (xs ++ ys)) h := by
  simp [dAdd, D.items?, e, hz]
theorem add_lst {xs ys : List D} {h : Hd} (hz : xs.length + ys.length ≤ 16777216) : dAdd false (.lst xs) (.lst ys) h = .ok (.lst (xs ++ ys)) h := by
  simp [dAdd, D.items?, hz]
/-! ### known tests -/
theorem drawB {n : Nat} {h h1 l : Hd} {i : Nat} {many : Int} (hn : 1 ≤ n) (d : 64 ≤ h.length) (s : St h h1) (i1 : 1 ≤ i) (i2 : i ≤ 63) (m1 : 0 < many) (m2 : many < 1000000000) : ∃ (r : Int) (h2 : Hd), callN T n 12 [.ref i, .int many] (h1 ++ l) = .ok (.int r) (h2 ++ l) ∧ St h h2 ∧ 0 ≤ r ∧ r < many := by
  obtain ⟨r, g, e, sg, r1, r2⟩ := draw (n := n) (i := i) (many := many) hn (s.dks.app l) i1 i2 m1 m2
  obtain ⟨h2, rfl, a, b, c⟩ := sg.unapp (by rw [s.len]; exact d)
  exact ⟨r, h2, e, s.trans ⟨b, a, c⟩, r1, r2⟩
abbrev k1Body : MS := (sSeq (sSet 5 (mCall 12 (aCons (mVar 1) (aCons (mC (.int 3)) aNil))))
  (sIf (tCmp (mOp dGt (mVar 5) (mC (.int 0))))
  (sExpr (mMt kAppend (mVar 2) (aCons (mTup (aCons (mVar 3) (aCons (mOp (dEq false) (mVar 5) (mC (.int 1))) aNil))) aNil)))
  sNil))
abbrev k2Body : MS := (sIf (tAnd (tCmp (mOp (dIn true) (mVar 3) (mVar 0))) (tCmp (mOp (dEq false) (mCall 12 (aCons (mVar 1) (aCons (mC (.int 3)) aNil))) (mC (.int 0)))))
  (sExpr (mMt kAppend (mVar 2) (aCons (mTup (aCons (mVar 3) (aCons (mOp (dEq false) (mCall 12 (aCons (mVar 1) (aCons (mC (.int 2)) aNil))) (mC (.int 0))) aNil))) aNil)))
  sNil)
structure KnI (h h1 : Hd) (kn : List (C × Bool)) (todo : List C) : Prop where
  st : St h h1
  nd : (kn.map (·.1)).Nodup
  ht : ∀ p ∈ kn, p.1.ht ≤ 390
  tn : todo.Nodup
  th : ∀ c ∈ todo, c.ht ≤ 390
theorem snocK (kn : List (C × Bool)) (p : C × Bool) : (kn ++ [p]).map knD = kn.map knD ++ [knD p] := by simp
theorem k1_step {n : Nat} (hn : 1 ≤ n) {h h1 : Hd} {i : Nat} (i1 : 1 ≤ i) (i2 : i ≤ 63) (hd : 64 ≤ h.length) {x0 x4 x5 : Option D} {kn : List (C × Bool)} {c : C} {todo : List C} (I : KnI h h1 kn (c :: todo)) (hnew : ∀ p ∈ kn, p.1 ∉ c :: todo) (hz : kn.length ≤ 1000000) :
    ∃ h2 kn' x5', k1Body (callN T n) [x0, some (.ref i), some (.ref h.length), some c.d, x4, x5] (h1 ++ [.lst (kn.map knD)]) = .nx [x0, some (.ref i), some (.ref h.length), some c.d, x4, x5'] (h2 ++ [.lst (kn'.map knD)]) ∧ KnI h h2 kn' todo ∧ (∀ p ∈ kn', p.1 ∉ todo) ∧ kn'.length ≤ kn.length + 1 ∧ (∀ p ∈ kn', p ∈ kn ∨ p.1 = c) := by
  obtain ⟨r, h2, e, s2, r1, r2⟩ := drawB (n := n) (l := [.lst (kn.map knD)]) (many := 3) hn hd I.st i1 i2 (by omega) (by omega)
  generalize callN T n = cl at e
  have tn := List.nodup_cons.mp I.tn
  by_cases hr : 0 < r
  · refine ⟨h2, kn ++ [(c, decide (r = 1))], some (.int r), ?_, ⟨s2, ?_, ?_, tn.2, fun x hx => I.th x (List.mem_cons_of_mem _ hx)⟩, ?_, by simp, ?_⟩
    · have em : mTup (aCons (mVar 3) (aCons (mOp (dEq false) (mVar 5) (mC (.int 1))) aNil)) cl [x0, some (.ref i), some (.ref h.length), some c.d, x4, some (.int r)] (h2 ++ [.lst (kn.map knD)]) = .ok (knD (c, decide (r = 1))) (h2 ++ [.lst (kn.map knD)]) := by
        simp [eq_int, knD]
      have l2 : h2.length = h.length := s2.len
      have ap := append_at (c := cl) (t := [x0, some (.ref i), some (.ref h.length), some c.d, x4, some (.int r)]) (h := h2 ++ [.lst (kn.map knD)]) (i := 2) (L := h.length) (xs := kn.map knD) rfl (by rw [← l2]; exact get_last h2 _) em (by rw [← l2]; exact get_last h2 _) (by rw [List.length_map]; omega)
      rw [← l2, set_last, ← snocK] at ap
      have e1 : sSet 5 (mCall 12 (aCons (mVar 1) (aCons (mC (.int 3)) aNil))) cl [x0, some (.ref i), some (.ref h.length), some c.d, x4, x5] (h1 ++ [.lst (kn.map knD)]) = .nx [x0, some (.ref i), some (.ref h.length), some c.d, x4, some (.int r)] (h2 ++ [.lst (kn.map knD)]) := by simp [e]
      have e2 : tCmp (mOp dGt (mVar 5) (mC (.int 0))) cl [x0, some (.ref i), some (.ref h.length), some c.d, x4, some (.int r)] (h2 ++ [.lst (kn.map knD)]) = .ok true (h2 ++ [.lst (kn.map knD)]) := by simp [dCmp, hr]
      unfold k1Body
      rw [sSeq_ev, e1, seq_nx, sIf_ev, e2, toS_ok, if_pos rfl, ← l2, ap]
    · rw [List.map_append, List.map_singleton]
      exact List.nodup_append.mpr ⟨I.nd, by simp, fun a ha b hb => by
        rw [List.mem_singleton.mp hb]
        rintro rfl
        obtain ⟨p, hp, rfl⟩ := List.mem_map.mp ha
        exact hnew p hp (List.mem_cons_self ..)⟩
    · intro p hp
      rcases List.mem_append.mp hp with hp | hp
      · exact I.ht p hp
      · rw [List.mem_singleton.mp hp]; exact I.th c (List.mem_cons_self ..)
    · intro p hp
      rcases List.mem_append.mp hp with hp | hp
      · exact fun z => hnew p hp (List.mem_cons_of_mem _ z)
      · rw [List.mem_singleton.mp hp]; exact tn.1
    · intro p hp
      rcases List.mem_append.mp hp with hp | hp
      · exact .inl hp
      · rw [List.mem_singleton.mp hp]; exact .inr rfl
  · refine ⟨h2, kn, some (.int r), ?_, ⟨s2, I.nd, I.ht, tn.2, fun x hx => I.th x (List.mem_cons_of_mem _ hx)⟩, fun p hp z => hnew p hp (List.mem_cons_of_mem _ z), by omega, fun p hp => .inl hp⟩
    have e1 : sSet 5 (mCall 12 (aCons (mVar 1) (aCons (mC (.int 3)) aNil))) cl [x0, some (.ref i), some (.ref h.length), some c.d, x4, x5] (h1 ++ [.lst (kn.map knD)]) = .nx [x0, some (.ref i), some (.ref h.length), some c.d, x4, some (.int r)] (h2 ++ [.lst (kn.map knD)]) := by simp [e]
    have e2 : tCmp (mOp dGt (mVar 5) (mC (.int 0))) cl [x0, some (.ref i), some (.ref h.length), some c.d, x4, some (.int r)] (h2 ++ [.lst (kn.map knD)]) = .ok false (h2 ++ [.lst (kn.map knD)]) := by simp [dCmp, hr]
    unfold k1Body
    rw [sSeq_ev, e1, seq_nx, sIf_ev, e2, toS_ok, if_neg (by simp)]
    rfl
theorem nin_lst {n : Bool} {cs : List C} {c : C} {h : Hd} (hc : c.ht ≤ 390) : dIn n c.d (.lst (cs.map C.d)) h = .ok (.bl (n != decide (c ∈ cs))) h := by
  have := (cmpOk_in hc (cs.map C.d) (plain_Cs cs)).1
  have e : D.dict? h (.lst (cs.map C.d)) = none := rfl
  simp [dIn, dInS, D.see, e, this, has_C]
theorem k2_step {n : Nat} (hn : 1 ≤ n) {h h1 : Hd} {i : Nat} (i1 : 1 ≤ i) (i2 : i ≤ 63) (hd : 64 ≤ h.length) {x4 x5 : Option D} {ts : List C} {kn : List (C × Bool)} {c : C} {todo : List C} (I : KnI h h1 kn (c :: todo)) (hnew : ∀ p ∈ kn, p.1 ∈ ts ∨ p.1 ∉ c :: todo) (hz : kn.length ≤ 1000000) :
    ∃ h2 kn', k2Body (callN T n) [some (.lst (ts.map C.d)), some (.ref i), some (.ref h.length), some c.d, x4, x5] (h1 ++ [.lst (kn.map knD)]) = .nx [some (.lst (ts.map C.d)), some (.ref i), some (.ref h.length), some c.d, x4, x5] (h2 ++ [.lst (kn'.map knD)]) ∧ KnI h h2 kn' todo ∧ (∀ p ∈ kn', p.1 ∈ ts ∨ p.1 ∉ todo) ∧ kn'.length ≤ kn.length + 1 := by
  have tn := List.nodup_cons.mp I.tn
  have hc := I.th c (List.mem_cons_self ..)
  have e0 : ∀ cl h', tCmp (mOp (dIn true) (mVar 3) (mVar 0)) cl [some (.lst (ts.map C.d)), some (.ref i), some (.ref h.length), some c.d, x4, x5] h' = .ok (!decide (c ∈ ts)) h' := fun cl h' => by
    simp [nin_lst hc]
  by_cases hm : c ∈ ts
  · refine ⟨h1, kn, ?_, ⟨I.st, I.nd, I.ht, tn.2, fun x hx => I.th x (List.mem_cons_of_mem _ hx)⟩, fun p hp => (hnew p hp).imp_right fun z y => z (List.mem_cons_of_mem _ y), by omega⟩
    unfold k2Body
    rw [sIf_ev, tAnd_ev, e0]
    simp [hm]
  · obtain ⟨r, h2, e, s2, r1, r2⟩ := drawB (n := n) (l := [.lst (kn.map knD)]) (many := 3) hn hd I.st i1 i2 (by omega) (by omega)
    by_cases hr : r = 0
    · obtain ⟨u, h3, e', s3, u1, u2⟩ := drawB (n := n) (l := [.lst (kn.map knD)]) (many := 2) hn hd s2 i1 i2 (by omega) (by omega)
      generalize callN T n = cl at e e'
      refine ⟨h3, kn ++ [(c, decide (u = 0))], ?_, ⟨s3, ?_, ?_, tn.2, fun x hx => I.th x (List.mem_cons_of_mem _ hx)⟩, ?_, by simp⟩
      · have em : mTup (aCons (mVar 3) (aCons (mOp (dEq false) (mCall 12 (aCons (mVar 1) (aCons (mC (.int 2)) aNil))) (mC (.int 0))) aNil)) cl [some (.lst (ts.map C.d)), some (.ref i), some (.ref h.length), some c.d, x4, x5] (h2 ++ [.lst (kn.map knD)]) = .ok (knD (c, decide (u = 0))) (h3 ++ [.lst (kn.map knD)]) := by
          simp [e', eq_int, knD]
        have l2 : h2.length = h.length := s2.len
        have l3 : h3.length = h.length := s3.len
        have ap := append_at (c := cl) (t := [some (.lst (ts.map C.d)), some (.ref i), some (.ref h.length), some c.d, x4, x5]) (h := h2 ++ [.lst (kn.map knD)]) (H := h3 ++ [.lst (kn.map knD)]) (i := 2) (L := h.length) (xs := kn.map knD) rfl (by rw [← l2]; exact get_last h2 _) em (by rw [← l3]; exact get_last h3 _) (by rw [List.length_map]; omega)
        rw [← l3, set_last, ← snocK, l3] at ap
        unfold k2Body
        rw [sIf_ev, tAnd_ev, e0]
        simp only [hm, decide_false, Bool.not_false, bind_ok, if_true, tCmp_ev, mOp_ev, mCall_ev, aCons_ev, mVar_ev, List.getElem?_cons_succ, List.getElem?_cons_zero, mC_ev, aNil_ev, e, eq_int, hr, decide_true, dBl_ev, toS_ok]
        exact ap
      · rw [List.map_append, List.map_singleton]
        exact List.nodup_append.mpr ⟨I.nd, by simp, fun a ha b hb => by
          rw [List.mem_singleton.mp hb]
          rintro rfl
          obtain ⟨p, hp, rfl⟩ := List.mem_map.mp ha
          rcases hnew p hp with q | q
          · exact hm q
          · exact q (List.mem_cons_self ..)⟩
      · intro p hp
        rcases List.mem_append.mp hp with hp | hp
        · exact I.ht p hp
        · rw [List.mem_singleton.mp hp]; exact hc
      · intro p hp
        rcases List.mem_append.mp hp with hp | hp
        · exact (hnew p hp).imp_right fun z y => z (List.mem_cons_of_mem _ y)
        · rw [List.mem_singleton.mp hp]; exact .inr tn.1
    · generalize callN T n = cl at e
      refine ⟨h2, kn, ?_, ⟨s2, I.nd, I.ht, tn.2, fun x hx => I.th x (List.mem_cons_of_mem _ hx)⟩, fun p hp => (hnew p hp).imp_right fun z y => z (List.mem_cons_of_mem _ y), by omega⟩
      unfold k2Body
      rw [sIf_ev, tAnd_ev, e0]
      simp [hm, e, eq_int, hr]
theorem c_known {n : Nat} (hn : 2 ≤ n) {h : Hd} (d : Dks h) {i : Nat} (i1 : 1 ≤ i) (i2 : i ≤ 63) {ts : List C} (tn : ts.Nodup) (th : ∀ c ∈ ts, c.ht ≤ 390) (tl : ts.length ≤ 100000) :
    ∃ (kn : List (C × Bool)) (h' : Hd), callN T n 24 [.lst (ts.map C.d), .ref i] h = .ok (.lst (kn.map knD)) h' ∧ St h h' ∧ (kn.map (·.1)).Nodup ∧ (∀ p ∈ kn, p.1.ht ≤ 390) ∧ kn.length ≤ ts.length + 4 := by
  obtain ⟨m, rfl⟩ := lvl hn
  rw [call_at (F := ⟨2, 6, b__law_known⟩) rfl]
  have hd := d.len
  have p1 := fun (h1 : Hd) (x0 x4 x5 : Option D) (kn : List (C × Bool)) (c : C) (todo : List C) (I : KnI h h1 kn (c :: todo)) (a : ∀ p ∈ kn, p.1 ∉ c :: todo) (b : kn.length ≤ 1000000) => k1_step (n := m + 1) (by omega) (h := h) i1 i2 hd (x0 := x0) (x4 := x4) (x5 := x5) I a b
  have p2 := fun (h1 : Hd) (x4 x5 : Option D) (kn : List (C × Bool)) (c : C) (todo : List C) (I : KnI h h1 kn (c :: todo)) (a : ∀ p ∈ kn, p.1 ∈ ts ∨ p.1 ∉ c :: todo) (b : kn.length ≤ 1000000) => k2_step (n := m + 1) (by omega) (h := h) i1 i2 hd (x4 := x4) (x5 := x5) (ts := ts) I a b
  have p3 := fun (h1 : Hd) (l : Hd) (many : Int) (s : St h h1) (a : 0 < many) (b : many < 1000000000) => drawB (n := m + 1) (l := l) (many := many) (by omega) hd s i1 i2 a b
  generalize callN T (m + 1) = cl at p1 p2 p3
  have ea : ([D.lst (ts.map C.d), .ref i].map some ++ List.replicate (6 - 2) (none : Option D)) = [some (.lst (ts.map C.d)), some (.ref i), none, none, none, none] := rfl
  rw [runFn_at (np := 2) (nn := 6) rfl ea]
  have hbd : b__law_known = sSeq (sSet 2 (mLst true aNil)) (sSeq (sFor (iVal (mVar 0)) (.nm 3) k1Body) (sSeq (sFor (iVal (mLst false (aCons (mTup (aCons (mC (.str [111, 119, 110, 101, 100])) aNil)) (aCons (mTup (aCons (mC (.str [108, 101, 97, 115, 116])) (aCons (mC (.str [112, 111, 105, 110, 116, 115])) (aCons (mC (.int 20)) aNil)))) (aCons (mTup (aCons (mC (.str [115, 111, 109, 101])) (aCons (mC (.str [99, 104, 105, 108, 100])) (aCons (mTup (aCons (mC (.str [97, 108, 108])) aNil)) aNil)))) (aCons (mTup (aCons (mC (.str [105, 115])) (aCons (mC (.str [107, 105, 110, 100])) (aCons (mC (.str [107, 105, 110, 100])) aNil)))) aNil)))))) (.nm 3) k2Body)
    (sSeq (sSet 4 (mCall 12 (aCons (mVar 1) (aCons (mOp (dAdd false) (mB gLen (aCons (mVar 2) aNil)) (mC (.int 1))) aNil)))) (sRet (mOp (dAdd false) (mCut false (mVar 2) (pYes (mVar 4)) pNo) (mCut false (mVar 2) pNo (pYes (mVar 4)))))))) := rfl
  have s1 : sSet 2 (mLst true aNil) cl [some (.lst (ts.map C.d)), some (.ref i), none, none, none, none] h = .nx [some (.lst (ts.map C.d)), some (.ref i), some (.ref h.length), none, none, none] (h ++ [.lst []]) := by simp
  have tlen : (ts.map C.d).length ≤ 16777216 := by rw [List.length_map]; omega
  have hi1 : iVal (mVar 0) cl [some (.lst (ts.map C.d)), some (.ref i), some (.ref h.length), none, none, none] (h ++ [.lst []]) = .ok ⟨ts.map C.d, none⟩ (h ++ [.lst []]) := by simp [dIter]
  obtain ⟨h1, kn1, x3, x5, e1, I1, a1, b1⟩ := sFor_gen (b := k1Body) (g := .nm 3) (I := fun ds t h' => ∃ (todo : List C) (h1 : Hd) (kn : List (C × Bool)) (x3 x5 : Option D), ds = todo.map C.d ∧ t = [some (.lst (ts.map C.d)), some (.ref i), some (.ref h.length), x3, none, x5] ∧ h' = h1 ++ [.lst (kn.map knD)] ∧ KnI h h1 kn todo ∧ (∀ p ∈ kn, p.1 ∉ todo) ∧ (∀ p ∈ kn, p.1 ∈ ts) ∧ (∀ c ∈ todo, c ∈ ts) ∧ kn.length + todo.length ≤ ts.length)
    (O := fun y => ∃ (h1 : Hd) (kn : List (C × Bool)) (x3 x5 : Option D), y = .nx [some (.lst (ts.map C.d)), some (.ref i), some (.ref h.length), x3, none, x5] (h1 ++ [.lst (kn.map knD)]) ∧ KnI h h1 kn [] ∧ (∀ p ∈ kn, p.1 ∈ ts) ∧ kn.length ≤ ts.length) hi1
    (by
      rintro d ds t h' ⟨todo, h1, kn, x3, x5, hr, rfl, rfl, I, a, b, g, z⟩
      cases todo with
      | nil => simp at hr
      | cons c todo =>
        rw [List.map_cons] at hr
        obtain ⟨rfl, rfl⟩ := List.cons.inj hr
        rw [List.length_cons] at z
        obtain ⟨h2, kn', x5', e, I', a', b', g'⟩ := p1 h1 (some (.lst (ts.map C.d))) none x5 kn c todo I a (by omega)
        refine ⟨trivial, [some (.lst (ts.map C.d)), some (.ref i), some (.ref h.length), some c.d, none, x5], rfl, ?_⟩
        rw [e]
        exact .nx ⟨todo, h2, kn', some c.d, x5', rfl, rfl, rfl, I', a', fun p hp => (g' p hp).elim (b p) fun q => by rw [q]; exact g c (List.mem_cons_self ..), fun x hx => g x (List.mem_cons_of_mem _ hx), by omega⟩)
    (by
      rintro t h' ⟨todo, h1, kn, x3, x5, hr, rfl, rfl, I, a, b, g, z⟩
      cases todo with
      | cons u us => simp at hr
      | nil => exact ⟨trivial, h1, kn, x3, x5, rfl, I, b, by simpa using z⟩)
    ⟨ts, h, [], none, none, rfl, rfl, rfl, ⟨St.refl d, by simp, by simp, tn, th⟩, by simp, by simp, fun c hc => hc, by simp⟩
  obtain ⟨E, hE⟩ : ∃ E : List C, E = [.pl .owned, .least false 20, .some [99, 104, 105, 108, 100] (.pl .all), .is [107, 105, 110, 100] [107, 105, 110, 100]] := ⟨_, rfl⟩
  have hi2 : iVal (mLst false (aCons (mTup (aCons (mC (.str [111, 119, 110, 101, 100])) aNil)) (aCons (mTup (aCons (mC (.str [108, 101, 97, 115, 116])) (aCons (mC (.str [112, 111, 105, 110, 116, 115])) (aCons (mC (.int 20)) aNil)))) (aCons (mTup (aCons (mC (.str [115, 111, 109, 101])) (aCons (mC (.str [99, 104, 105, 108, 100])) (aCons (mTup (aCons (mC (.str [97, 108, 108])) aNil)) aNil)))) (aCons (mTup (aCons (mC (.str [105, 115])) (aCons (mC (.str [107, 105, 110, 100])) (aCons (mC (.str [107, 105, 110, 100])) aNil)))) aNil))))) cl [some (.lst (ts.map C.d)), some (.ref i), some (.ref h.length), x3, none, x5] (h1 ++ [.lst (kn1.map knD)]) = .ok ⟨E.map C.d, none⟩ (h1 ++ [.lst (kn1.map knD)]) := by
    simp [dIter, hE, C.d, Pl.w, fw]
  obtain ⟨h2, kn2, y3, y5, e2, I2, b2⟩ := sFor_gen (b := k2Body) (g := .nm 3) (I := fun ds t h' => ∃ (todo : List C) (h1 : Hd) (kn : List (C × Bool)) (x3 x5 : Option D), ds = todo.map C.d ∧ t = [some (.lst (ts.map C.d)), some (.ref i), some (.ref h.length), x3, none, x5] ∧ h' = h1 ++ [.lst (kn.map knD)] ∧ KnI h h1 kn todo ∧ (∀ p ∈ kn, p.1 ∈ ts ∨ p.1 ∉ todo) ∧ kn.length + todo.length ≤ ts.length + 4)
    (O := fun y => ∃ (h1 : Hd) (kn : List (C × Bool)) (x3 x5 : Option D), y = .nx [some (.lst (ts.map C.d)), some (.ref i), some (.ref h.length), x3, none, x5] (h1 ++ [.lst (kn.map knD)]) ∧ KnI h h1 kn [] ∧ kn.length ≤ ts.length + 4) hi2
    (by
      rintro d ds t h' ⟨todo, h1, kn, x3, x5, hr, rfl, rfl, I, a, z⟩
      cases todo with
      | nil => simp at hr
      | cons c todo =>
        rw [List.map_cons] at hr
        obtain ⟨rfl, rfl⟩ := List.cons.inj hr
        rw [List.length_cons] at z
        obtain ⟨h2, kn', e, I', a', b'⟩ := p2 h1 none x5 kn c todo I a (by omega)
        refine ⟨trivial, [some (.lst (ts.map C.d)), some (.ref i), some (.ref h.length), some c.d, none, x5], rfl, ?_⟩
        rw [e]
        exact .nx ⟨todo, h2, kn', some c.d, x5, rfl, rfl, rfl, I', a', by omega⟩)
    (by
      rintro t h' ⟨todo, h1, kn, x3, x5, hr, rfl, rfl, I, a, z⟩
      cases todo with
      | cons u us => simp at hr
      | nil => exact ⟨trivial, h1, kn, x3, x5, rfl, I, by simpa using z⟩)
    ⟨E, h1, kn1, x3, x5, rfl, rfl, rfl, ⟨I1.st, I1.nd, I1.ht, by rw [hE]; decide, by rw [hE]; decide⟩, fun p hp => .inl (a1 p hp), by rw [hE]; simp; omega⟩
  obtain ⟨r, h3, e3, s3, r1, r2⟩ := p3 h2 [.lst (kn2.map knD)] ((kn2.length : Nat) + 1) I2.st (by omega) (by omega)
  have l2 : h2.length = h.length := I2.st.len
  have l3 : h3.length = h.length := s3.len
  have gl : gLen [.ref h.length] (h2 ++ [.lst (kn2.map knD)]) = .ok (.int (kn2.length : Nat)) (h2 ++ [.lst (kn2.map knD)]) := by
    have := len_ref (xs := kn2.map knD) (h := h2 ++ [.lst (kn2.map knD)]) (K := h.length) (by rw [← l2]; exact get_last h2 _)
    rwa [List.length_map] at this
  have s4 : sSet 4 (mCall 12 (aCons (mVar 1) (aCons (mOp (dAdd false) (mB gLen (aCons (mVar 2) aNil)) (mC (.int 1))) aNil))) cl [some (.lst (ts.map C.d)), some (.ref i), some (.ref h.length), y3, none, y5] (h2 ++ [.lst (kn2.map knD)]) = .nx [some (.lst (ts.map C.d)), some (.ref i), some (.ref h.length), y3, some (.int r), y5] (h3 ++ [.lst (kn2.map knD)]) := by
    simp [gl, dAdd, e3]
  have g3 : (h3 ++ [O.lst (kn2.map knD)])[h.length]? = some (.lst (kn2.map knD)) := by rw [← l3]; exact get_last h3 _
  have q1 := cut_drop (kn2.map knD) (h3 ++ [O.lst (kn2.map knD)]) r1 (by rw [List.length_map]; omega)
  have q2 := cut_take (kn2.map knD) (h3 ++ [O.lst (kn2.map knD)]) r1 (by rw [List.length_map]; omega)
  rw [← dCut_ref g3] at q1 q2
  have q3 := add_lst (xs := (kn2.map knD).drop r.toNat) (ys := (kn2.map knD).take r.toNat) (h := h3 ++ [O.lst (kn2.map knD)]) (by simp only [List.length_take, List.length_drop, List.length_map]; omega)
  have q4 : (kn2.map knD).drop r.toNat ++ (kn2.map knD).take r.toNat = (kn2.drop r.toNat ++ kn2.take r.toNat).map knD := by
    rw [List.map_append, List.map_drop, List.map_take]
  have s5 : sRet (mOp (dAdd false) (mCut false (mVar 2) (pYes (mVar 4)) pNo) (mCut false (mVar 2) pNo (pYes (mVar 4)))) cl [some (.lst (ts.map C.d)), some (.ref i), some (.ref h.length), y3, some (.int r), y5] (h3 ++ [.lst (kn2.map knD)]) = .rt (.lst ((kn2.drop r.toNat ++ kn2.take r.toNat).map knD)) (h3 ++ [.lst (kn2.map knD)]) := by
    simp only [sRet_ev, mOp_ev, mCut_ev, mVar_ev, List.getElem?_cons_succ, List.getElem?_cons_zero, pYes_ev, pNo_ev, bind_ok, dPart_ev, q1, q2, q3, q4, toS_ok]
  have pm : List.Perm (kn2.drop r.toNat ++ kn2.take r.toNat) kn2 := by
    have := List.perm_append_comm (l₁ := kn2.drop r.toNat) (l₂ := kn2.take r.toNat)
    rwa [List.take_append_drop] at this
  refine ⟨kn2.drop r.toNat ++ kn2.take r.toNat, h3, ?_, s3, ?_, fun p hp => I2.ht p (pm.mem_iff.mp hp), by rw [pm.length_eq]; exact b2⟩
  · rw [hbd, sSeq_ev, s1, seq_nx, sSeq_ev, e1, seq_nx, sSeq_ev, e2, seq_nx, sSeq_ev, s4, seq_nx, s5, fin_rt]
    exact s3.fin (by
      rw [lo_lst]
      refine plainA_lo ?_
      generalize kn2.drop r.toNat ++ kn2.take r.toNat = kk
      induction kk with
      | nil => rfl
      | cons p kk ih => simp [D.plainA, knD, D.plain, p.1.plain, ih])
  · exact (pm.map _).nodup_iff.mpr I2.nd
end K24

namespace K24
open PySem L2 Ev
/-! ### a card -/
structure Row where
  k : List Nat
  s : List Nat
  c : Bool
  o : List Nat
  p : Int
  q : Int
  ls : List (List Nat)
def Row.d (r : Row) : D := .tup [.str r.k, .str r.s, .bl r.c, .str r.o, .int r.p, .int r.q, .lst (r.ls.map D.str)]
structure Row.ok (r : Row) : Prop where
  p0 : 0 ≤ r.p
  p4 : r.p ≤ 4
  q0 : 0 ≤ r.q
  q4 : r.q ≤ 20
def Row.pl (r : Row) : Pl → Bool
  | .all => true | .none => false | .closed => r.c | .owned => decide (r.o ≠ [])
def Row.is (r : Row) (f n : List Nat) : Bool :=
  if f = [108, 97, 98, 101, 108] then decide (n ∈ r.ls)
  else if f = [107, 105, 110, 100] then decide (r.k = n)
  else if f = [115, 116, 97, 116, 101] then decide (r.s = n)
  else decide (r.o = n)
def Row.w (r : Row) (f : Bool) : Int := if f then r.p else r.q
def Row.num (r : Row) (f : Bool) (s : Sg) (b : Int) : Bool := match s with
  | .eq => decide (r.w f = b) | .lt => decide (r.w f < b) | .gt => decide (b < r.w f) | .le => decide (r.w f ≤ b) | .ge => decide (b ≤ r.w f)
def evQ (r : Row) : Q → Bool
  | .pl p => r.pl p
  | .is f n => r.is f n
  | .num f s b => r.num f s b
  | .not q => !evQ r q
  | .bin o a b => if o then evQ r a || evQ r b else evQ r a && evQ r b
  | .link _ _ _ => false
def evC (r : Row) : C → Bool
  | .pl p => r.pl p
  | .is f n => r.is f n
  | .least f b => decide (b ≤ r.w f)
  | .not q => !evC r q
  | .bin o a b => if o then evC r a || evC r b else evC r a && evC r b
  | .some _ _ => false
theorem ev_least {r : Row} (hr : r.ok) (f : Bool) (b : Int) : evC r (atLeast f b) = decide (b ≤ r.w f) := by
  have := hr.p0; have := hr.p4; have := hr.q0; have := hr.q4
  unfold atLeast
  split
  · cases f <;> simp [evC, Row.pl, Row.w] <;> omega
  · split
    · cases f <;> simp [evC, Row.pl, Row.w, topf] at * <;> omega
    · rfl
theorem ev_num {r : Row} (hr : r.ok) (f : Bool) (s : Sg) (b : Int) : evC r (coreNum f s b) = r.num f s b := by
  cases s <;> simp only [coreNum, Row.num, evC, ev_least hr]
  · by_cases h1 : b ≤ r.w f <;> by_cases h2 : b + 1 ≤ r.w f <;> simp [h1, h2] <;> omega
  · by_cases h1 : b ≤ r.w f <;> simp [h1] <;> omega
  · by_cases h1 : b + 1 ≤ r.w f <;> simp [h1] <;> omega
  · by_cases h1 : b + 1 ≤ r.w f <;> simp [h1] <;> omega
theorem ev_core {r : Row} (hr : r.ok) : ∀ q : Q, q.flat = true → evC r (core q) = evQ r q
  | .pl p, _ => rfl
  | .is f n, _ => rfl
  | .num f s b, _ => ev_num hr f s b
  | .not q, h => by simp only [core, evC, evQ]; rw [ev_core hr q (by simpa [Q.flat] using h)]
  | .bin o a b, h => by
    simp only [Q.flat, Bool.and_eq_true] at h
    simp only [core, evC, evQ]
    rw [ev_core hr a h.1, ev_core hr b h.2]
  | .link e x q, h => by simp [Q.flat] at h
/-- three values, by tests that are right or left out -/
theorem v3_part {r : Row} {κ : C → Option Bool} : ∀ c : C, (∀ x ∈ c.tests, κ x = none ∨ κ x = some (evC r x)) → v3 κ c = none ∨ v3 κ c = some (evC r c)
  | .pl .all, h => .inr rfl
  | .pl .none, h => .inr rfl
  | .pl .closed, h => h _ (by simp [C.tests])
  | .pl .owned, h => h _ (by simp [C.tests])
  | .is f n, h => h _ (by simp [C.tests])
  | .least f b, h => h _ (by simp [C.tests])
  | .some x q, h => h _ (by simp [C.tests])
  | .not q, h => by
    rcases v3_part q (fun x hx => h x (by simpa [C.tests] using hx)) with e | e <;> simp [v3, evC, e]
  | .bin o a b, h => by
    have ea := v3_part a (fun x hx => h x (by simp [C.tests, hx]))
    have eb := v3_part b (fun x hx => h x (by simp [C.tests, hx]))
    rcases ea with e1 | e1 <;> rcases eb with e2 | e2 <;> simp only [v3, evC, e1, e2] <;> cases o <;> cases evC r a <;> cases evC r b <;> simp
theorem v3_whole {r : Row} {κ : C → Option Bool} : ∀ c : C, (∀ x ∈ c.tests, κ x = some (evC r x)) → v3 κ c = some (evC r c)
  | .pl .all, h => rfl
  | .pl .none, h => rfl
  | .pl .closed, h => h _ (by simp [C.tests])
  | .pl .owned, h => h _ (by simp [C.tests])
  | .is f n, h => h _ (by simp [C.tests])
  | .least f b, h => h _ (by simp [C.tests])
  | .some x q, h => h _ (by simp [C.tests])
  | .not q, h => by
    have e := v3_whole q (fun x hx => h x (by simpa [C.tests] using hx))
    simp [v3, evC, e]
  | .bin o a b, h => by
    have e1 := v3_whole a (fun x hx => h x (by simp [C.tests, hx]))
    have e2 := v3_whole b (fun x hx => h x (by simp [C.tests, hx]))
    simp only [v3, evC, e1, e2]
    cases o <;> cases evC r a <;> cases evC r b <;> simp
/-! ### a test on the card -/
theorem rix {x0 x1 x2 x3 x4 x5 x6 : D} (h : Hd) : dIx (.tup [x0, x1, x2, x3, x4, x5, x6]) (.int 0) h = .ok x0 h ∧ dIx (.tup [x0, x1, x2, x3, x4, x5, x6]) (.int 1) h = .ok x1 h ∧ dIx (.tup [x0, x1, x2, x3, x4, x5, x6]) (.int 2) h = .ok x2 h ∧ dIx (.tup [x0, x1, x2, x3, x4, x5, x6]) (.int 3) h = .ok x3 h ∧ dIx (.tup [x0, x1, x2, x3, x4, x5, x6]) (.int 4) h = .ok x4 h ∧ dIx (.tup [x0, x1, x2, x3, x4, x5, x6]) (.int 5) h = .ok x5 h ∧ dIx (.tup [x0, x1, x2, x3, x4, x5, x6]) (.int 6) h = .ok x6 h :=
  ⟨dIx_tup (k := 0) h rfl, dIx_tup (k := 1) h rfl, dIx_tup (k := 2) h rfl, dIx_tup (k := 3) h rfl, dIx_tup (k := 4) h rfl, dIx_tup (k := 5) h rfl, dIx_tup (k := 6) h rfl⟩
theorem in_strs {x : List Nat} (h : Hd) : ∀ ls : List (List Nat), dIn false (.str x) (.lst (ls.map D.str)) h = .ok (.bl (decide (x ∈ ls))) h := by
  intro ls
  have hp : ∀ l : List (List Nat), D.plainA (l.map D.str) = true := fun l => by
    induction l with
    | nil => rfl
    | cons a l ih => simp [D.plainA, D.plain, ih]
  have e : D.dict? h (.lst (ls.map D.str)) = none := rfl
  have hc : cmpOk (.str x) (.lst (ls.map D.str)) = true := by simp [cmpOk, near, D.plain, hp, D.dep]
  have hh : D.has (ls.map D.str) (.str x) = decide (x ∈ ls) := by
    induction ls with
    | nil => rfl
    | cons a l ih =>
      rw [List.map_cons, has_str, ih rfl (by simp [cmpOk, near, D.plain, hp, D.dep])]
      by_cases q : a = x
      · simp [q]
      · simp [q, Ne.symm q, beq_dec]
  simp [dIn, dInS, D.see, e, hc, hh]
theorem kIx4 {c : Calls} {t : Tau} {h : Hd} {a0 a1 a2 a3 : List Nat} {x : List Nat} {ma : M} {k : Nat} (ea : ma c t h = .ok (.str x) h) (hm : x ∈ [a0, a1, a2, a3]) (hk : Ev.placeOf [D.str a0, .str a1, .str a2, .str a3] (.str x) = k) : mMt kIndex (mLst false (aCons (mC (.str a0)) (aCons (mC (.str a1)) (aCons (mC (.str a2)) (aCons (mC (.str a3)) aNil))))) (aCons ma aNil) c t h = .ok (.int (k : Nat)) h := by
  simp only [mMt_ev, mLst_ev, aCons_ev, mC_ev, bind_ok, aNil_ev]
  rw [freshF _ (by simp), bind_ok]
  have k1 : kindOf (.lst [D.str a0, .str a1, .str a2, .str a3]) h = some .list := rfl
  have k2 : kIndex .list = some fIndexL := rfl
  simp only [k1, k2, ea, bind_ok]
  unfold fIndexL
  simp only [k1]
  unfold fIndex
  simp only [D.see]
  rw [if_pos ⟨by simp [cmpOk, near, D.plain, D.plainA, D.dep, D.depA], by simp only [has_str, has_nil, Bool.or_false]; simp at hm; rcases hm with rfl | rfl | rfl | rfl <;> simp⟩, hk]
theorem isF_cases {f : List Nat} (h : isF f = true) : f = [107, 105, 110, 100] ∨ f = [115, 116, 97, 116, 101] ∨ f = [111, 119, 110, 101, 114] ∨ f = [108, 97, 98, 101, 108] := by
  simpa [isF] using h
theorem c_test {n : Nat} (hn : 1 ≤ n) {r : Row} {q : Q} (hq : q.leaf = true) {h : Hd} : callN T n 17 [q.d, r.d] h = .ok (.bl (evQ r q)) h := by
  obtain ⟨m, rfl⟩ := lvl hn
  rw [call_at (F := ⟨2, 4, b__law_test⟩) rfl]
  generalize callN T m = c
  obtain ⟨r0, r1, r2, r3, r4, r5, r6⟩ := rix (x0 := .str r.k) (x1 := .str r.s) (x2 := .bl r.c) (x3 := .str r.o) (x4 := .int r.p) (x5 := .int r.q) (x6 := .lst (r.ls.map D.str)) h
  have ee : dEq true (.str r.o) (.str []) h = .ok (.bl (decide (r.o ≠ []))) h := by
    simp [dEq, cmpOk, D.plain, near, D.dep, D.see, beq_dec]
    cases r.o <;> simp
  cases q with
  | pl p => cases p <;> simp [runFn, b__law_test, Q.d, Row.d, ix0, eq_w, Pl.w, evQ, Row.pl, fin1_same, r0, r1, r2, r3, r4, r5, r6, ee]
  | is f x =>
    rcases isF_cases (by simpa [Q.leaf] using hq) with rfl | rfl | rfl | rfl
    · have := fun t ea => kIx4 (c := c) (t := t) (h := h) (a0 := [107, 105, 110, 100]) (a1 := [115, 116, 97, 116, 101]) (a2 := [99, 108, 111, 115, 101, 100]) (a3 := [111, 119, 110, 101, 114]) (x := [107, 105, 110, 100]) (ma := mOp dIx (mVar 0) (mC (.int 1))) (k := 0) ea (by simp) (by simp [Ev.placeOf])
      have ki := this [some (Q.is [107, 105, 110, 100] x).d, some r.d, none, none] (by simp [Q.d, ix1])
      simp only [Q.d, Row.d] at ki
      simp [-mMt_ev, runFn, b__law_test, Q.d, Row.d, ix0, ix1, ix2, eq_w, evQ, Row.is, fin1_same, r0, r1, r2, r3, r4, r5, r6, ki, beq_dec]
    · have := fun t ea => kIx4 (c := c) (t := t) (h := h) (a0 := [107, 105, 110, 100]) (a1 := [115, 116, 97, 116, 101]) (a2 := [99, 108, 111, 115, 101, 100]) (a3 := [111, 119, 110, 101, 114]) (x := [115, 116, 97, 116, 101]) (ma := mOp dIx (mVar 0) (mC (.int 1))) (k := 1) ea (by simp) (by simp [Ev.placeOf, List.idxOf_cons])
      have ki := this [some (Q.is [115, 116, 97, 116, 101] x).d, some r.d, none, none] (by simp [Q.d, ix1])
      simp only [Q.d, Row.d] at ki
      simp [-mMt_ev, runFn, b__law_test, Q.d, Row.d, ix0, ix1, ix2, eq_w, evQ, Row.is, fin1_same, r0, r1, r2, r3, r4, r5, r6, ki, beq_dec]
    · have := fun t ea => kIx4 (c := c) (t := t) (h := h) (a0 := [107, 105, 110, 100]) (a1 := [115, 116, 97, 116, 101]) (a2 := [99, 108, 111, 115, 101, 100]) (a3 := [111, 119, 110, 101, 114]) (x := [111, 119, 110, 101, 114]) (ma := mOp dIx (mVar 0) (mC (.int 1))) (k := 3) ea (by simp) (by simp [Ev.placeOf, List.idxOf_cons])
      have ki := this [some (Q.is [111, 119, 110, 101, 114] x).d, some r.d, none, none] (by simp [Q.d, ix1])
      simp only [Q.d, Row.d] at ki
      simp [-mMt_ev, runFn, b__law_test, Q.d, Row.d, ix0, ix1, ix2, eq_w, evQ, Row.is, fin1_same, r0, r1, r2, r3, r4, r5, r6, ki, beq_dec]
    · have := in_strs (x := x) h r.ls
      simp [runFn, b__law_test, Q.d, Row.d, ix0, ix1, ix2, eq_w, evQ, Row.is, fin1_same, r0, r1, r2, r3, r4, r5, r6, this]
  | num f s b =>
    obtain ⟨k0, hk0⟩ : ∃ k0 : Sg → Int, k0 = fun s => match s with | .eq => 0 | .lt => 1 | .gt => 2 | .le => 3 | .ge => 4 := ⟨_, rfl⟩
    have ki := fun (a b' : Option D) => sg_index (cl := c) (t := [some (Q.num f s b).d, some r.d, a, b']) (h := h) (s := s) (ma := mOp dIx (mVar 0) (mC (.int 2))) (by simp [Q.d, ix2])
    have kk : (match s with | .eq => 0 | .lt => 1 | .gt => 2 | .le => 3 | .ge => 4 : Int) = k0 s := by rw [hk0]
    have ki2 : ∀ (a b' : Option D), mMt kIndex (mLst false (aCons (mC (.str [61])) (aCons (mC (.str [60])) (aCons (mC (.str [62])) (aCons (mC (.str [60, 61])) (aCons (mC (.str [62, 61])) aNil)))))) (aCons (mOp dIx (mVar 0) (mC (.int 2))) aNil) c [some (Q.num f s b).d, some r.d, a, b'] h = .ok (.int (k0 s)) h := fun a b' => by rw [ki, hk0]; cases s <;> rfl
    have fix : ∀ (a0 a1 a2 a3 a4 : D), dIx (.lst [a0, a1, a2, a3, a4]) (.int (k0 s)) h = .ok (match s with | .eq => a0 | .lt => a1 | .gt => a2 | .le => a3 | .ge => a4) h := by
      intro a0 a1 a2 a3 a4
      rw [hk0]
      cases s <;> simp [dIx, dIxS, D.dict?, D.see, ixI]
    clear ki kk hk0
    simp only [Q.d, Row.d] at ki2
    have fv : (match s with | .eq => D.bl (decide (r.w f = b)) | .lt => .bl (decide (r.w f < b)) | .gt => .bl (decide (b < r.w f)) | .le => .bl (decide (r.w f ≤ b)) | .ge => .bl (decide (b ≤ r.w f))) = .bl (r.num f s b) := by cases s <;> rfl
    cases f with
    | false =>
      simp only [Row.w, Bool.false_eq_true, if_false] at fv
      simp only [fw, Bool.false_eq_true, if_false] at ki2
      simp [-mMt_ev, runFn, b__law_test, Q.d, Row.d, fw, ix0, ix1, ix3, eq_w, eq_int, evQ, fin1_same, r0, r1, r2, r3, r4, r5, r6, dCmp, ki2, fix, fv]
    | true =>
      simp only [Row.w, if_true] at fv
      simp only [fw, if_true] at ki2
      simp [-mMt_ev, runFn, b__law_test, Q.d, Row.d, fw, ix0, ix1, ix3, eq_w, eq_int, evQ, fin1_same, r0, r1, r2, r3, r4, r5, r6, dCmp, ki2, fix, fv]
  | _ => simp [Q.leaf] at hq
end K24

namespace K24
open PySem L2 Ev
/-- a test that may stand on a card -/
def C.tg : C → Bool
  | .pl _ => true
  | .is f _ => isF f
  | .least _ _ => true
  | _ => false
theorem kIx2 {c : Calls} {t : Tau} {h : Hd} {a0 a1 : List Nat} {x : List Nat} {ma : M} {k : Nat} (ea : ma c t h = .ok (.str x) h) (hm : x ∈ [a0, a1]) (hk : Ev.placeOf [D.str a0, .str a1] (.str x) = k) : mMt kIndex (mLst false (aCons (mC (.str a0)) (aCons (mC (.str a1)) aNil))) (aCons ma aNil) c t h = .ok (.int (k : Nat)) h := by
  simp only [mMt_ev, mLst_ev, aCons_ev, mC_ev, bind_ok, aNil_ev]
  rw [freshF _ (by simp), bind_ok]
  have k1 : kindOf (.lst [D.str a0, .str a1]) h = some .list := rfl
  have k2 : kIndex .list = some fIndexL := rfl
  simp only [k1, k2, ea, bind_ok]
  unfold fIndexL
  simp only [k1]
  unfold fIndex
  simp only [D.see]
  rw [if_pos ⟨by simp [cmpOk, near, D.plain, D.plainA, D.dep, D.depA], by simp only [has_str, has_nil, Bool.or_false]; simp at hm; rcases hm with rfl | rfl <;> simp⟩, hk]
theorem c_oncard {n : Nat} (hn : 2 ≤ n) {r : Row} {x : C} (hx : x.tg = true) {h : Hd} : callN T n 26 [x.d, r.d] h = .ok (.bl (evC r x)) h := by
  obtain ⟨m, rfl⟩ := lvl hn
  rw [call_at (F := ⟨2, 2, b__law_on_card⟩) rfl]
  obtain ⟨r0, r1, r2, r3, r4, r5, r6⟩ := rix (x0 := .str r.k) (x1 := .str r.s) (x2 := .bl r.c) (x3 := .str r.o) (x4 := .int r.p) (x5 := .int r.q) (x6 := .lst (r.ls.map D.str)) h
  cases x with
  | pl p =>
    have e := c_test (n := m + 1) (by omega) (r := r) (q := .pl p) rfl (h := h)
    generalize callN T (m + 1) = c at e
    simp only [Q.d] at e
    cases p <;> simp [runFn, b__law_on_card, C.d, Pl.w, ix0, eq_w] <;> simp [Pl.w] at e <;> simp [e, evQ, evC, fin1_same]
  | is f x =>
    have e := c_test (n := m + 1) (by omega) (r := r) (q := .is f x) hx (h := h)
    generalize callN T (m + 1) = c at e
    simp only [Q.d] at e
    simp [runFn, b__law_on_card, C.d, ix0, eq_w, e, evQ, evC, fin1_same]
  | least f b =>
    generalize callN T (m + 1) = c
    cases f with
    | false =>
      have ki := kIx2 (c := c) (t := [some (C.least false b).d, some r.d]) (h := h) (a0 := wPrio) (a1 := wPoints) (x := wPoints) (ma := mOp dIx (mVar 0) (mC (.int 1))) (k := 1) (by simp [C.d, ix1, fw]) (by simp) (by simp [Ev.placeOf, List.idxOf_cons])
      simp only [C.d, Row.d, fw, Bool.false_eq_true, if_false] at ki
      simp [-mMt_ev, runFn, b__law_on_card, C.d, Row.d, fw, ix0, ix2, eq_w, ki, dAdd, r5, dCmp, evC, Row.w, fin1_same]
    | true =>
      have ki := kIx2 (c := c) (t := [some (C.least true b).d, some r.d]) (h := h) (a0 := wPrio) (a1 := wPoints) (x := wPrio) (ma := mOp dIx (mVar 0) (mC (.int 1))) (k := 0) (by simp [C.d, ix1, fw]) (by simp) (by simp [Ev.placeOf])
      simp only [C.d, Row.d, fw, if_true] at ki
      simp [-mMt_ev, runFn, b__law_on_card, C.d, Row.d, fw, ix0, ix2, eq_w, ki, dAdd, r4, dCmp, evC, Row.w, fin1_same]
  | _ => simp [C.tg] at hx
theorem tg_least (f : Bool) (b : Int) : ∀ x ∈ (atLeast f b).tests, x.tg = true := by
  unfold atLeast
  split
  · simp [C.tests]
  · split <;> simp [C.tests, C.tg]
theorem tg_core : ∀ q : Q, q.good = true → q.flat = true → ∀ x ∈ (core q).tests, x.tg = true
  | .pl p, _, _ => by cases p <;> simp [core, C.tests, C.tg]
  | .is f n, h, _ => by simpa [core, C.tests, C.tg, Q.good, Q.leaf] using h
  | .num f s b, _, _ => by
    intro x hx
    cases s <;> simp only [core, coreNum, C.tests, List.mem_append] at hx
    · exact hx.elim (tg_least _ _ x) (tg_least _ _ x)
    all_goals exact tg_least _ _ x hx
  | .not q, g, f => by
    intro x hx
    exact tg_core q (by simpa [Q.good] using g) (by simpa [Q.flat] using f) x (by simpa [core, C.tests] using hx)
  | .bin o a b, g, f => by
    intro x hx
    simp only [Q.good, Bool.and_eq_true] at g
    simp only [Q.flat, Bool.and_eq_true] at f
    simp only [core, C.tests, List.mem_append] at hx
    exact hx.elim (tg_core b g.2 f.2 x) (tg_core a g.1 f.1 x)
  | .link e r q, _, f => by simp [Q.flat] at f
/-! ### the truths of a code on one card -/
noncomputable abbrev ltuBody : MS := (sIf (tCmp (mOp (dIn false) (mOp dIx (mVar 4) (mC (.int 0))) (mTup (aCons (mC (.str [97, 110, 100])) (aCons (mC (.str [111, 114])) aNil)))))
  (sSeq (sSet 5 (mMt kPop (mVar 3) aNil))
  (sSeq (sSet 6 (mMt kPop (mVar 3) aNil))
  (sIf (tCmp (mOp (dEq false) (mOp dIx (mVar 4) (mC (.int 0))) (mC (.str [97, 110, 100]))))
  (sExpr (mMt kAppend (mVar 3) (aCons (mComp false (iRng1 (mB gLen (aCons (mVar 1) aNil))) (.nm 12) [12] tYesM (mAnd (mOp dIx (mVar 6) (mVar 12)) (mOp dIx (mVar 5) (mVar 12)))) aNil)))
  (sExpr (mMt kAppend (mVar 3) (aCons (mComp false (iRng1 (mB gLen (aCons (mVar 1) aNil))) (.nm 12) [12] tYesM (mOr (mOp dIx (mVar 6) (mVar 12)) (mOp dIx (mVar 5) (mVar 12)))) aNil))))))
  (sIf (tCmp (mOp (dEq false) (mOp dIx (mVar 4) (mC (.int 0))) (mC (.str [110, 111, 116]))))
  (sSeq (sSet 7 (mMt kPop (mVar 3) aNil))
  (sExpr (mMt kAppend (mVar 3) (aCons (mComp false (iRng1 (mB gLen (aCons (mVar 1) aNil))) (.nm 12) [12] tYesM (mUn dNot (mOp dIx (mVar 7) (mVar 12)))) aNil))))
  (sIf (tCmp (mOp (dIn false) (mOp dIx (mVar 4) (mC (.int 0))) (mTup (aCons (mC (.str [115, 111, 109, 101])) (aCons (mC (.str [101, 118, 101, 114, 121])) aNil)))))
  (sSeq (sSet 7 (mMt kPop (mVar 3) aNil))
  (sSeq (sSet 8 (mMt kIndex (mLst false (aCons (mC (.str [98, 108, 111, 99, 107, 101, 114])) (aCons (mC (.str [99, 104, 105, 108, 100])) (aCons (mC (.str [111, 114, 105, 103, 105, 110, 97, 108])) aNil)))) (aCons (mOp dIx (mVar 4) (mC (.int 1))) aNil)))
  (sSeq (sSet 9 (mLst true aNil))
  (sSeq (sFor (iVal (mVar 2)) (.nm 10)
  (sSeq (sSet 11 (mComp false (iVal (mOp dIx (mVar 10) (mVar 8))) (.nm 13) [13] tYesM (mOp dIx (mVar 7) (mVar 13))))
  (sIf (tCmp (mOp (dEq false) (mOp dIx (mVar 4) (mC (.int 0))) (mC (.str [115, 111, 109, 101]))))
  (sExpr (mMt kAppend (mVar 9) (aCons (mOp (dIn false) (mC (.bl true)) (mVar 11)) aNil)))
  (sExpr (mMt kAppend (mVar 9) (aCons (mOp (dIn true) (mC (.bl false)) (mVar 11)) aNil))))))
  (sExpr (mMt kAppend (mVar 3) (aCons (mVar 9) aNil)))))))
  (sExpr (mMt kAppend (mVar 3) (aCons (mComp false (iVal (mVar 1)) (.nm 14) [14] tYesM (mCall 17 (aCons (mVar 4) (aCons (mVar 14) aNil)))) aNil))))))
abbrev bD (b : Bool) : D := .lst [.bl b]
theorem comp_one {c : Calls} {t : Tau} {h : Hd} {x v : D} {X : M} (hl : t.length = 15) (h1 : t[1]? = some (some (.lst [x]))) (hX : X c (t.set 12 (some (.int 0))) h = .ok v h) : mComp false (iRng1 (mB gLen (aCons (mVar 1) aNil))) (.nm 12) [12] tYesM X c t h = .ok (.lst [v]) h := by
  have g1 : mB gLen (aCons (mVar 1) aNil) c t h = .ok (.int 1) h := by simp [h1, gLen, D.dict?, D.see]
  have g2 : iRng1 (mB gLen (aCons (mVar 1) aNil)) c t h = .ok ⟨rngD 0 1, none⟩ h := by
    rw [iRng1_ev, g1, bind_ok, dRng1_ok _ (by omega) (by omega)]
    rfl
  have g3 : rngD 0 1 = [D.int 0] := by rw [rngD_eq]; rfl
  have g4 : stepC c (wipeT t [12]) (.nm 12) tYesM X (.int 0) h = .ok (some v) h := by
    have : (wipeT t [12]).set 12 (some (.int 0)) = t.set 12 (some (.int 0)) := by simp [wipeT]
    unfold stepC asg
    simp only [this, tYes_ev, bind_ok, if_true, hX]
    rfl
  unfold mComp
  rw [g2, bind_ok]
  show ((compL ⟨rngD 0 1, none⟩ _ (rngD 0 1) h).bind _) = _
  rw [g3, comp_pure (s := ⟨[D.int 0], none⟩) trivial (f := fun _ => some v) [D.int 0] (by intro d hd; rw [List.mem_singleton.mp hd]; exact g4), bind_ok]
  exact freshF _ (by simp)
end K24

namespace K24
open PySem L2 Ev
abbrev bQ (r : Row) (q : Q) : D := bD (evQ r q)
theorem bix (b : Bool) (h : Hd) : dIx (bD b) (.int 0) h = .ok (.bl b) h := by simp [dIx, dIxS, D.dict?, D.see, ixI]
theorem rev_snocD (f : Q → D) (q : Q) (st : List Q) : (q :: st).reverse.map f = st.reverse.map f ++ [f q] := by simp
theorem tu_step {n : Nat} (hn : 1 ≤ n) {r : Row} {b : Hd} {x0 x2 x5 x6 x7 : Option D} {t : Tk} {st : List Q} {a c : Int} (rn : Run a [t] c) (hlk : t.isLk = false) (ha : (st.length : Int) = a) (hz : st.length ≤ 1000000) : ∃ y5 y6 y7, ltuBody (callN T n) [x0, some (.lst [r.d]), x2, some (.ref b.length), some t.d, x5, x6, x7, none, none, none, none, none, none, none] (b ++ [.lst (st.reverse.map (bQ r))]) = .nx [x0, some (.lst [r.d]), x2, some (.ref b.length), some t.d, y5, y6, y7, none, none, none, none, none, none, none] (b ++ [.lst ((stepQ st t).reverse.map (bQ r))]) := by
  have ct := fun (q : Q) (l : q.leaf = true) (h : Hd) => c_test (n := n) hn (r := r) l (h := h)
  generalize callN T n = cl at ct
  have app : ∀ (us : List Q) (y5 y6 y7 : Option D) (m : M) (q : Q), us.length ≤ 1000000 → (∀ h, m cl [x0, some (.lst [r.d]), x2, some (.ref b.length), some t.d, y5, y6, y7, none, none, none, none, none, none, none] h = .ok (bQ r q) h) → sExpr (mMt kAppend (mVar 3) (aCons m aNil)) cl [x0, some (.lst [r.d]), x2, some (.ref b.length), some t.d, y5, y6, y7, none, none, none, none, none, none, none] (b ++ [.lst (us.reverse.map (bQ r))]) = .nx [x0, some (.lst [r.d]), x2, some (.ref b.length), some t.d, y5, y6, y7, none, none, none, none, none, none, none] (b ++ [.lst ((q :: us).reverse.map (bQ r))]) := by
    intro us y5 y6 y7 m q hu em
    have := append_at (c := cl) (t := [x0, some (.lst [r.d]), x2, some (.ref b.length), some t.d, y5, y6, y7, none, none, none, none, none, none, none]) (h := b ++ [.lst (us.reverse.map (bQ r))]) (i := 3) (L := b.length) (m := m) (d := bQ r q) (xs := us.reverse.map (bQ r)) rfl (get_last b _) (em _) (get_last b _) (by simp; omega)
    rw [this, set_last, rev_snoc]
  have pop : ∀ (us : List Q) (q : Q) (y5 y6 y7 : Option D), mMt kPop (mVar 3) aNil cl [x0, some (.lst [r.d]), x2, some (.ref b.length), some t.d, y5, y6, y7, none, none, none, none, none, none, none] (b ++ [.lst ((q :: us).reverse.map (bQ r))]) = .ok (bQ r q) (b ++ [.lst (us.reverse.map (bQ r))]) := by
    intro us q y5 y6 y7
    have := pop_at (c := cl) (t := [x0, some (.lst [r.d]), x2, some (.ref b.length), some t.d, y5, y6, y7, none, none, none, none, none, none, none]) (i := 3) (L := b.length) (ys := us.reverse.map (bQ r)) (y := bQ r q) rfl (get_last b _)
    rw [rev_snoc, this, set_last]
  have T1 : ∀ (w : List Nat) (rr : List D) (y5 y6 y7 : Option D) h, t.d = .tup (.str w :: rr) → tCmp (mOp (dIn false) (mOp dIx (mVar 4) (mC (.int 0))) (mTup (aCons (mC (.str [97, 110, 100])) (aCons (mC (.str [111, 114])) aNil)))) cl [x0, some (.lst [r.d]), x2, some (.ref b.length), some t.d, y5, y6, y7, none, none, none, none, none, none, none] h = .ok (wAnd == w || wOr == w) h := fun w rr y5 y6 y7 h e => by rw [e]; simp [ix0, in_w2]
  have T2 : ∀ (w : List Nat) (rr : List D) (y5 y6 y7 : Option D) h, t.d = .tup (.str w :: rr) → tCmp (mOp (dEq false) (mOp dIx (mVar 4) (mC (.int 0))) (mC (.str [110, 111, 116]))) cl [x0, some (.lst [r.d]), x2, some (.ref b.length), some t.d, y5, y6, y7, none, none, none, none, none, none, none] h = .ok (w == wNot) h := fun w rr y5 y6 y7 h e => by rw [e]; simp [ix0, eq_w]
  have T3 : ∀ (w : List Nat) (rr : List D) (y5 y6 y7 : Option D) h, t.d = .tup (.str w :: rr) → tCmp (mOp (dIn false) (mOp dIx (mVar 4) (mC (.int 0))) (mTup (aCons (mC (.str [115, 111, 109, 101])) (aCons (mC (.str [101, 118, 101, 114, 121])) aNil)))) cl [x0, some (.lst [r.d]), x2, some (.ref b.length), some t.d, y5, y6, y7, none, none, none, none, none, none, none] h = .ok (wSome == w || wEvery == w) h := fun w rr y5 y6 y7 h e => by rw [e]; simp [ix0, in_w2]
  have T4 : ∀ (w : List Nat) (rr : List D) (y5 y6 y7 : Option D) h, t.d = .tup (.str w :: rr) → tCmp (mOp (dEq false) (mOp dIx (mVar 4) (mC (.int 0))) (mC (.str [97, 110, 100]))) cl [x0, some (.lst [r.d]), x2, some (.ref b.length), some t.d, y5, y6, y7, none, none, none, none, none, none, none] h = .ok (w == wAnd) h := fun w rr y5 y6 y7 h e => by rw [e]; simp [ix0, eq_w]
  cases rn with
  | @leaf _ _ q _ l k =>
    obtain ⟨w, rr, e, n1, n2, n3, n4, n5⟩ : ∃ w rr, (Tk.leaf q).d = .tup (.str w :: rr) ∧ w ≠ wAnd ∧ w ≠ wOr ∧ w ≠ wNot ∧ w ≠ wSome ∧ w ≠ wEvery := by
      cases q with
      | pl p => exact ⟨p.w, [], rfl, by cases p <;> simp [Pl.w], by cases p <;> simp [Pl.w], by cases p <;> simp [Pl.w], by cases p <;> simp [Pl.w], by cases p <;> simp [Pl.w]⟩
      | is f x => exact ⟨wIs, _, rfl, by simp, by simp, by simp, by simp, by simp⟩
      | num f s x => exact ⟨wNum, _, rfl, by simp, by simp, by simp, by simp, by simp⟩
      | _ => simp [Q.leaf] at l
    have em : ∀ h, mComp false (iVal (mVar 1)) (.nm 14) [14] tYesM (mCall 17 (aCons (mVar 4) (aCons (mVar 14) aNil))) cl [x0, some (.lst [r.d]), x2, some (.ref b.length), some (Tk.leaf q).d, x5, x6, x7, none, none, none, none, none, none, none] h = .ok (bQ r q) h := by
      intro h
      have e1 : iVal (mVar 1) cl [x0, some (.lst [r.d]), x2, some (.ref b.length), some (Tk.leaf q).d, x5, x6, x7, none, none, none, none, none, none, none] h = .ok ⟨[r.d], none⟩ h := by simp [dIter]
      have e2 : stepC cl (wipeT [x0, some (.lst [r.d]), x2, some (.ref b.length), some (Tk.leaf q).d, x5, x6, x7, none, none, none, none, none, none, none] [14]) (.nm 14) tYesM (mCall 17 (aCons (mVar 4) (aCons (mVar 14) aNil))) r.d h = .ok (some (.bl (evQ r q))) h := by
        have := ct q l h
        simp [stepC, asg, wipeT, noX, Tk.d, this]
      unfold mComp
      rw [e1, bind_ok, comp_pure (s := ⟨[r.d], none⟩) trivial (f := fun _ => some (.bl (evQ r q))) [r.d] (by intro d hd; rw [List.mem_singleton.mp hd]; exact e2), bind_ok]
      exact freshF _ (by simp)
    refine ⟨x5, x6, x7, ?_⟩
    unfold ltuBody
    rw [sIf_ev, T1 w rr _ _ _ _ e, toS_ok, if_neg (by simp [Ne.symm n1, Ne.symm n2]), sIf_ev, T2 w rr _ _ _ _ e, toS_ok, if_neg (by simp [n3]), sIf_ev, T3 w rr _ _ _ _ e, toS_ok, if_neg (by simp [Ne.symm n4, Ne.symm n5])]
    exact app st x5 x6 x7 _ q hz em
  | nt g k =>
    cases st with
    | nil => simp at ha; omega
    | cons q st =>
      simp at hz
      have p := pop st q x5 x6 x7
      have em : ∀ h, mComp false (iRng1 (mB gLen (aCons (mVar 1) aNil))) (.nm 12) [12] tYesM (mUn dNot (mOp dIx (mVar 7) (mVar 12))) cl [x0, some (.lst [r.d]), x2, some (.ref b.length), some Tk.nt.d, x5, x6, some (bQ r q), none, none, none, none, none, none, none] h = .ok (bQ r (.not q)) h := fun h =>
        comp_one rfl rfl (by
          have := bix (evQ r q) h
          simp [this, dNot, evQ, dTrue, D.see])
      have ap := app st x5 x6 (some (bQ r q)) _ (.not q) (by omega) em
      refine ⟨x5, x6, some (bQ r q), ?_⟩
      unfold ltuBody
      rw [sIf_ev, T1 wNot [] _ _ _ _ rfl, toS_ok, if_neg (by simp), sIf_ev, T2 wNot [] _ _ _ _ rfl, toS_ok, if_pos (by simp), sSeq_ev, sSet_ev, p, toS_ok, seq_nx]
      exact ap
  | @lk _ _ e x _ g k => simp [Tk.isLk] at hlk
  | @bn _ _ o _ g k =>
    match st, ha with
    | [], ha => simp at ha; omega
    | [_], ha => simp at ha; omega
    | y :: x :: st, ha =>
      simp at hz
      have p1 := pop (x :: st) y x5 x6 x7
      have p2 := pop st x (some (bQ r y)) x6 x7
      refine ⟨some (bQ r y), some (bQ r x), x7, ?_⟩
      have s1 : sSet 5 (mMt kPop (mVar 3) aNil) cl [x0, some (.lst [r.d]), x2, some (.ref b.length), some (Tk.bn o).d, x5, x6, x7, none, none, none, none, none, none, none] (b ++ [.lst ((y :: x :: st).reverse.map (bQ r))]) = .nx [x0, some (.lst [r.d]), x2, some (.ref b.length), some (Tk.bn o).d, some (bQ r y), x6, x7, none, none, none, none, none, none, none] (b ++ [.lst ((x :: st).reverse.map (bQ r))]) := by
        rw [sSet_ev, p1, toS_ok]; rfl
      have s2 : sSet 6 (mMt kPop (mVar 3) aNil) cl [x0, some (.lst [r.d]), x2, some (.ref b.length), some (Tk.bn o).d, some (bQ r y), x6, x7, none, none, none, none, none, none, none] (b ++ [.lst ((x :: st).reverse.map (bQ r))]) = .nx [x0, some (.lst [r.d]), x2, some (.ref b.length), some (Tk.bn o).d, some (bQ r y), some (bQ r x), x7, none, none, none, none, none, none, none] (b ++ [.lst (st.reverse.map (bQ r))]) := by
        rw [sSet_ev, p2, toS_ok]; rfl
      unfold ltuBody
      rw [sIf_ev, T1 (bw o) [] _ _ _ _ rfl, toS_ok, if_pos (by cases o <;> simp [bw]), sSeq_ev, s1, seq_nx, sSeq_ev, s2, seq_nx, sIf_ev, T4 (bw o) [] _ _ _ _ rfl, toS_ok]
      have i1 := fun h => bix (evQ r x) h
      have i2 := fun h => bix (evQ r y) h
      cases o with
      | false =>
        rw [if_pos (by simp [bw])]
        refine app st _ _ _ _ (.bin false x y) (by omega) (fun h => comp_one rfl rfl ?_)
        cases ex : evQ r x <;> simp [i1, i2, evQ, dTrue, D.see, ex]
      | true =>
        rw [if_neg (by simp [bw])]
        refine app st _ _ _ _ (.bin true x y) (by omega) (fun h => comp_one rfl rfl ?_)
        cases ex : evQ r x <;> simp [i1, i2, evQ, dTrue, D.see, ex]
theorem c_truths {n : Nat} {x y : D} {r : Row} {ts : List Tk} {q : Q} {h : Hd} (hn : 2 ≤ n) (hx : CodeAt h x ts) (rn : Run 0 ts 1) (hq : ts.foldl stepQ [] = [q]) (hf : ∀ t ∈ ts, t.isLk = false) (hl : ts.length ≤ 100000) : callN T n 18 [x, .lst [r.d], y] h = .ok (bQ r q) h := by
  obtain ⟨m, rfl⟩ := lvl hn
  rw [call_at (F := ⟨3, 15, b__law_truths⟩) rfl]
  have stp := fun b x0 x2 x5 x6 x7 t st a c rn' hk ha hz => tu_step (n := m + 1) (by omega) (r := r) (b := b) (x0 := x0) (x2 := x2) (x5 := x5) (x6 := x6) (x7 := x7) (t := t) (st := st) (a := a) (c := c) rn' hk ha hz
  generalize callN T (m + 1) = cl at stp ⊢
  obtain ⟨src, i1, i2, i3⟩ := hx.iter
  have ea : ([x, .lst [r.d], y].map some ++ List.replicate (15 - 3) (none : Option D)) = [some x, some (.lst [r.d]), some y, none, none, none, none, none, none, none, none, none, none, none, none] := rfl
  rw [runFn_at (np := 3) (nn := 15) rfl ea]
  have hbd : b__law_truths = sSeq (sSet 3 (mLst true aNil)) (sSeq (sFor (iVal (mVar 0)) (.nm 4) ltuBody) (sRet (mOp dIx (mVar 3) (mC (.int 0))))) := rfl
  have s1 : sSet 3 (mLst true aNil) cl [some x, some (.lst [r.d]), some y, none, none, none, none, none, none, none, none, none, none, none, none] h = .nx [some x, some (.lst [r.d]), some y, some (.ref h.length), none, none, none, none, none, none, none, none, none, none, none] (h ++ [.lst []]) := by simp
  have hi : iVal (mVar 0) cl [some x, some (.lst [r.d]), some y, some (.ref h.length), none, none, none, none, none, none, none, none, none, none, none] (h ++ [.lst []]) = .ok src (h ++ [.lst []]) := by
    rw [iVal_ev, mVar_ev]; exact i1 _
  obtain ⟨t', ef, et⟩ := sFor_gen (b := ltuBody) (g := .nm 4) (I := fun ds t h' => ∃ (st : List Q) (us : List Tk) (x4 x5 x6 x7 : Option D), ds = us.map Tk.d ∧ t = [some x, some (.lst [r.d]), some y, some (.ref h.length), x4, x5, x6, x7, none, none, none, none, none, none, none] ∧ h' = h ++ [.lst (st.reverse.map (bQ r))] ∧ Run st.length us 1 ∧ us.foldl stepQ st = [q] ∧ st.length + us.length ≤ 100000 ∧ ∀ t ∈ us, t.isLk = false)
    (O := fun y => ∃ t', y = .nx t' (h ++ [.lst [bQ r q]]) ∧ t'[3]? = some (some (.ref h.length))) hi
    (by
      rintro d ds t h' ⟨st, us, x4, x5, x6, x7, hr, rfl, rfl, rn, hf, hz, hk⟩
      cases us with
      | nil => simp at hr
      | cons u us =>
        rw [List.map_cons] at hr
        obtain ⟨rfl, rfl⟩ := List.cons.inj hr
        obtain ⟨mm, r1, r2⟩ := rn.split
        obtain ⟨y5, y6, y7, e⟩ := stp h (some x) (some y) x5 x6 x7 u st _ _ r1 (hk u (List.mem_cons_self ..)) rfl (by simp at hz; omega)
        refine ⟨i3 _, [some x, some (.lst [r.d]), some y, some (.ref h.length), some u.d, x5, x6, x7, none, none, none, none, none, none, none], rfl, ?_⟩
        rw [e]
        have hm := (fold_run r1 st rfl).1
        have hsl := stepQ_len st u
        exact .nx ⟨stepQ st u, us, _, _, _, _, rfl, rfl, rfl, by rw [show ((stepQ st u).length : Int) = mm from hm]; exact r2, hf, by simp at hz; omega, fun t ht => hk t (List.mem_cons_of_mem _ ht)⟩)
    (by
      rintro t h' ⟨st, us, x4, x5, x6, x7, hr, rfl, rfl, rn, hf, hz, hk⟩
      cases us with
      | cons u us => simp at hr
      | nil =>
        have : st = [q] := hf
        subst this
        exact ⟨i3 _, [some x, some (.lst [r.d]), some y, some (.ref h.length), x4, x5, x6, x7, none, none, none, none, none, none, none], rfl, rfl⟩)
    ⟨[], ts, none, none, none, none, i2, rfl, rfl, rn, hq, by simpa using hl, hf⟩
  rw [hbd, sSeq_ev, s1, seq_nx, sSeq_ev, ef, seq_nx]
  simp only [sRet_ev, mOp_ev, mVar_ev, et, bind_ok, mC_ev, ixl0 (get_last h (.lst [bQ r q])), toS_ok, fin_rt]
  exact fin1_app (by simp [lo_lst, loA_cons])
end K24

namespace K24
open PySem L2 Ev
/-! ### how deep, how large -/
def Q.hw : Q → Nat
  | .not q => q.hw + 1
  | .bin _ a b => a.hw + b.hw + 1
  | .link _ _ q => q.hw + 3
  | _ => 2
def hwQ (qs : List Q) : Nat := (qs.map Q.hw).sum
theorem leaf_hw {q : Q} (h : q.leaf = true) : q.hw = 2 := by
  cases q <;> simp [Q.leaf, Q.hw] at h ⊢
theorem fold_hw {a b : Int} {ts : List Tk} (r : Run a ts b) : ∀ st : List Q, (st.length : Int) = a → hwQ (ts.foldl stepQ st) = hwQ st + hwT ts := by
  induction r with
  | nil a => intro st h; simp [hwT]
  | @leaf a b q ts l k ih =>
    intro st h
    have := ih (q :: st) (by simp; omega)
    rw [List.foldl_cons]; show hwQ (ts.foldl stepQ (q :: st)) = _
    rw [this]; simp [hwQ, hwT, Tk.hw, leaf_hw l]; omega
  | @nt a b ts g k ih =>
    intro st h
    cases st with
    | nil => simp at h; omega
    | cons q st =>
      have := ih (.not q :: st) (by simpa using h)
      rw [List.foldl_cons]; show hwQ (ts.foldl stepQ (.not q :: st)) = _
      rw [this]; simp [hwQ, hwT, Tk.hw, Q.hw]; omega
  | @lk a b e r ts g k ih =>
    intro st h
    cases st with
    | nil => simp at h; omega
    | cons q st =>
      have := ih (.link e r q :: st) (by simpa using h)
      rw [List.foldl_cons]; show hwQ (ts.foldl stepQ (.link e r q :: st)) = _
      rw [this]; simp [hwQ, hwT, Tk.hw, Q.hw]; omega
  | @bn a b o ts g k ih =>
    intro st h
    match st, h with
    | [], h => simp at h; omega
    | [_], h => simp at h; omega
    | y :: x :: st, h =>
      have := ih (.bin o x y :: st) (by simp at h ⊢; omega)
      rw [List.foldl_cons]; show hwQ (ts.foldl stepQ (.bin o x y :: st)) = _
      rw [this]; simp [hwQ, hwT, Tk.hw, Q.hw]; omega
theorem run_hw {ts : List Tk} {q : Q} (r : Run 0 ts 1) (hq : ts.foldl stepQ [] = [q]) : q.hw = hwT ts := by
  have := fold_hw r [] rfl
  rw [hq] at this
  simpa [hwQ] using this
theorem wtT_app (xs ys : List Tk) : wtT (xs ++ ys) = wtT xs + wtT ys := by simp [wtT]
theorem hwT_nt (k : Nat) : hwT (List.replicate k .nt) = k := by simp [hwT, Tk.hw]
theorem wtT_nt (k : Nat) : wtT (List.replicate k .nt) = 2 * k := by simp [wtT, Tk.wt]; omega
theorem hwT_le : ∀ ts : List Tk, hwT ts ≤ 3 * ts.length
  | [] => by simp [hwT]
  | t :: ts => by
    have := hwT_le ts
    have : t.hw ≤ 3 := by cases t <;> simp [Tk.hw]
    simp [hwT] at *
    omega
theorem wtT_le : ∀ ts : List Tk, wtT ts ≤ 12 * ts.length
  | [] => by simp [wtT]
  | t :: ts => by
    have := wtT_le ts
    have : t.wt ≤ 12 := by cases t <;> simp [Tk.wt]
    simp [wtT] at *
    omega
theorem ht_hw : ∀ q : Q, q.ht + 2 ≤ q.hw
  | .pl _ | .is _ _ | .num _ _ _ => by simp [Q.ht, Q.hw]
  | .not q => by have := ht_hw q; simp [Q.ht, Q.hw]; omega
  | .bin _ a b => by have := ht_hw a; have := ht_hw b; simp [Q.ht, Q.hw]; omega
  | .link _ _ q => by have := ht_hw q; simp [Q.ht, Q.hw]; omega
theorem least_ht (f : Bool) (b : Int) : (atLeast f b).ht = 0 := by
  unfold atLeast; split; rfl; split <;> rfl
theorem core_hw : ∀ q : Q, (core q).ht ≤ q.hw
  | .pl _ | .is _ _ => by simp [core, C.ht]
  | .num f s b => by cases s <;> simp [core, coreNum, C.ht, least_ht, Q.hw]
  | .not q => by have := core_hw q; simp [core, C.ht, Q.hw]; omega
  | .bin _ a b => by have := core_hw a; have := core_hw b; simp [core, C.ht, Q.hw]; omega
  | .link e _ q => by have := core_hw q; cases e <;> simp [core, C.ht, Q.hw] <;> omega
theorem least_cn (f : Bool) (b : Int) : D.cn (atLeast f b).d ≤ 4 := by
  unfold atLeast; split; simp [C.d, D.cn, D.cnA]; split <;> simp [C.d, D.cn, D.cnA]
theorem core_cn : ∀ q : Q, D.cn (core q).d ≤ q.wt
  | .pl _ | .is _ _ => by simp [core, C.d, D.cn, D.cnA, Q.wt]
  | .num f s b => by
    have := least_cn f b
    have := least_cn f (b + 1)
    cases s <;> simp [core, coreNum, C.d, D.cn, D.cnA, Q.wt] <;> omega
  | .not q => by have := core_cn q; simp [core, C.d, D.cn, D.cnA, Q.wt]; omega
  | .bin _ a b => by have := core_cn a; have := core_cn b; simp [core, C.d, D.cn, D.cnA, Q.wt]; omega
  | .link e _ q => by have := core_cn q; cases e <;> simp [core, C.d, D.cn, D.cnA, Q.wt] <;> omega
theorem nd_cn : ∀ c : C, c.nd ≤ D.cn c.d
  | .pl _ | .is _ _ | .least _ _ => by simp [C.nd, C.d, D.cn]
  | .some _ _ => by simp [C.nd, C.d, D.cn]
  | .not q => by have := nd_cn q; simp [C.nd, C.d, D.cn, D.cnA]; omega
  | .bin _ a b => by have := nd_cn a; have := nd_cn b; simp [C.nd, C.d, D.cn, D.cnA]; omega
theorem gd_C : ∀ c : C, D.gd c.d = true
  | .pl _ | .is _ _ | .least _ _ => by simp [C.d, D.gd, D.gdA]
  | .some _ q => by simp [C.d, D.gd, D.gdA, gd_C q]
  | .not q => by simp [C.d, D.gd, D.gdA, gd_C q]
  | .bin _ a b => by simp [C.d, D.gd, D.gdA, gd_C a, gd_C b]
theorem cn_tests : ∀ c : C, D.cnA (c.tests.map C.d) ≤ D.cn c.d
  | .pl p => by cases p <;> simp [C.tests, D.cnA]
  | .is _ _ | .least _ _ => by simp [C.tests, D.cnA]
  | .some _ _ => by simp [C.tests, D.cnA]
  | .not q => by have := cn_tests q; simp only [C.tests]; simp [C.d, D.cn, D.cnA]; omega
  | .bin _ a b => by
    have := cn_tests a
    have := cn_tests b
    simp only [C.tests, List.map_append, cnA_app]
    simp [C.d, D.cn, D.cnA]
    omega
theorem cn_add : ∀ (xs k : List C), D.cnA ((xs.foldl add k).map C.d) ≤ D.cnA (k.map C.d) + D.cnA (xs.map C.d)
  | [], k => by simp
  | x :: xs, k => by
    rw [List.foldl_cons]
    refine Nat.le_trans (cn_add xs _) ?_
    by_cases q : x ∈ k
    · rw [show add k x = k from if_pos q]; simp [D.cnA]
    · rw [show add k x = k ++ [x] from if_neg q, List.map_append, cnA_app]; simp [D.cnA]; omega
theorem cnA_sum (xs : List D) : D.cnA xs = (xs.map D.cn).sum := by
  induction xs with
  | nil => rfl
  | cons x xs ih => simp [D.cnA, ih]
theorem cn_ts (c : C) : D.cn (.tup ((tsC c).map C.d)) ≤ D.cn c.d + 1 := by
  have h1 : D.cnA ((tsC c).map C.d) = D.cnA ((c.tests.foldl add []).map C.d) := by
    rw [cnA_sum, cnA_sum]
    exact (((List.mergeSort_perm _ _).map _).map _).sum_nat
  have h2 := cn_add c.tests []
  have h3 := cn_tests c
  simp [D.cn, h1]
  simp [D.cnA] at h2
  omega
theorem gd_ts (c : C) : D.gd (.tup ((tsC c).map C.d)) = true := by
  show D.gdA _ = true
  rw [gdA_iff]
  intro x hx
  obtain ⟨y, _, rfl⟩ := List.mem_map.mp hx
  exact gd_C y
end K24

namespace K24
open PySem L2 Ev
theorem kap_sub {f : C → Bool} {kn : List (C × Bool)} (hf : ∀ p ∈ kn, p.2 = f p.1) (x : C) : kap kn x = none ∨ kap kn x = some (f x) := by
  unfold kap
  cases e : kn.find? fun p => decide (p.1 = x) with
  | none => exact .inl rfl
  | some p =>
    have h1 : p.1 = x := by have := List.find?_some (p := fun p : C × Bool => decide (p.1 = x)) e; simpa using this
    have h2 := hf p (List.mem_of_find?_eq_some e)
    exact .inr (by rw [Option.map_some, h2, h1])
theorem kap_ev {f : C → Bool} {l : List C} {x : C} (hx : x ∈ l) : kap (l.map fun x => (x, f x)) x = some (f x) := by
  refine (kap_sub (f := f) (by intro p hp; obtain ⟨y, _, rfl⟩ := List.mem_map.mp hp; rfl) x).resolve_left fun z => ?_
  unfold kap at z
  rw [Option.map_eq_none_iff, List.find?_eq_none] at z
  exact z (x, f x) (List.mem_map.mpr ⟨x, hx, rfl⟩) (by simp)
/-- the owner's labels: names, some left out -/
theorem comp_labels {n : Nat} (hn : 1 ≤ n) {h : Hd} (d : Dks h) {nm : List (List Nat)} (g : h[64]? = some (.lst (nm.map D.str))) (hl : nm.length = 6) {t : Tau} (t0 : t[0]? = some (some (.ref 1))) (t2 : t[2]? = some (some (.ref 64))) (tl : t.length = 14) :
    ∃ (ls : List (List Nat)) (h' : Hd), mComp false (iVal (mVar 2)) (.nm 12) [12] (tCmp (mOp (dEq false) (mCall 12 (aCons (mVar 0) (aCons (mC (.int 2)) aNil))) (mC (.int 0)))) (mVar 12) (callN T n) t h = .ok (.lst (ls.map D.str)) h' ∧ St h h' := by
  have p := fun h1 (d1 : Dks h1) => draw (n := n) (i := 1) (many := 2) hn d1 (by omega) (by omega) (by omega) (by omega)
  generalize callN T n = cl at p
  have e1 : iVal (mVar 2) cl t h = .ok ⟨nm.map D.str, some (64, nm.map D.str)⟩ h := by
    simp [t2, dIter, g]
  obtain ⟨xs, h', e2, ⟨ls, todo, els, etd, s, hz⟩⟩ := compL_gen (s := ⟨nm.map D.str, some (64, nm.map D.str)⟩) (step := stepC cl (wipeT t [12]) (.nm 12) (tCmp (mOp (dEq false) (mCall 12 (aCons (mVar 0) (aCons (mC (.int 2)) aNil))) (mC (.int 0)))) (mVar 12))
    (I := fun ds os h' => ∃ (ls todo : List (List Nat)), os = ls.map D.str ∧ ds = todo.map D.str ∧ St h h' ∧ ls.length + todo.length ≤ 6)
    (by
      rintro d ds os h1 ⟨ls, todo, rfl, hd, s, hz⟩
      cases todo with
      | nil => simp at hd
      | cons w todo =>
        rw [List.map_cons] at hd
        obtain ⟨rfl, rfl⟩ := List.cons.inj hd
        rw [List.length_cons] at hz
        obtain ⟨r, h2, e, s2, r1, r2⟩ := p h1 s.dks
        refine ⟨(s.same 64 (.inr (by omega))).trans g, ?_⟩
        have w0 : ((wipeT t [12]).set 12 (some (.str w)))[0]? = some (some (.ref 1)) := by simp [wipeT, List.getElem?_set_ne, t0]
        have w12 : ((wipeT t [12]).set 12 (some (.str w)))[12]? = some (some (.str w)) := List.getElem?_set_self (by simp [wipeT, tl])
        by_cases hr : r = 0
        · refine ⟨some (.str w), h2, ?_, ls ++ [w], todo, by simp, rfl, s.trans s2, by simp; omega⟩
          unfold stepC asg
          simp only [tCmp_ev, mOp_ev, mCall_ev, aCons_ev, mVar_ev, w0, w12, mC_ev, aNil_ev, bind_ok, e, eq_int, hr, decide_true, dBl_ev, if_true]
          rfl
        · refine ⟨none, h2, ?_, ls, todo, by simp, rfl, s.trans s2, by omega⟩
          unfold stepC asg
          simp only [tCmp_ev, mOp_ev, mCall_ev, aCons_ev, mVar_ev, w0, w12, mC_ev, aNil_ev, bind_ok, e, eq_int, hr, decide_false, dBl_ev, Bool.false_eq_true, if_false]
          rfl)
    (by
      rintro os h1 ⟨ls, todo, rfl, hd, s, hz⟩
      exact (s.same 64 (.inr (by omega))).trans g) (nm.map D.str) [] h ⟨[], nm, rfl, rfl, St.refl d, by simp [hl]⟩
  refine ⟨ls, h', ?_, s⟩
  have : xs = ls.map D.str := by simpa using els
  subst this
  unfold mComp
  rw [e1, bind_ok]
  show ((compL ⟨nm.map D.str, some (64, nm.map D.str)⟩ _ (nm.map D.str) h).bind _) = _
  rw [e2, bind_ok]
  exact freshF _ (by rw [List.length_map]; omega)
/-- the tests, each with its truth on the card -/
theorem comp_known {n : Nat} (hn : 2 ≤ n) {r : Row} {ts : List C} (hg : ∀ x ∈ ts, x.tg = true) (hz : ts.length ≤ 100000) {h : Hd} {t : Tau} {m : M} (em : m (callN T n) t h = .ok (.lst (ts.map C.d)) h) (t6 : t[6]? = some (some r.d)) (tl : t.length = 14) :
    mComp false (iVal m) (.nm 13) [13] tYesM (mTup (aCons (mVar 13) (aCons (mCall 26 (aCons (mVar 13) (aCons (mVar 6) aNil))) aNil))) (callN T n) t h = .ok (.lst ((ts.map fun x => (x, evC r x)).map knD)) h := by
  have oc := fun (x : C) (hx : x.tg = true) => c_oncard (n := n) hn (r := r) hx (h := h)
  generalize callN T n = cl at em oc
  have e1 : iVal m cl t h = .ok ⟨ts.map C.d, none⟩ h := by rw [iVal_ev, em]; rfl
  unfold mComp
  rw [e1, bind_ok]
  show ((compL ⟨ts.map C.d, none⟩ _ (ts.map C.d) h).bind _) = _
  have hok : (⟨ts.map C.d, none⟩ : Src).ok h := trivial
  have key : ∀ l : List C, (∀ x ∈ l, x.tg = true) → compL ⟨ts.map C.d, none⟩ (stepC cl (wipeT t [13]) (.nm 13) tYesM (mTup (aCons (mVar 13) (aCons (mCall 26 (aCons (mVar 13) (aCons (mVar 6) aNil))) aNil)))) (l.map C.d) h = .ok ((l.map fun x => (x, evC r x)).map knD) h := by
    intro l
    induction l with
    | nil =>
      intro _
      rw [List.map_nil]
      unfold compL
      rw [if_pos hok]
      rfl
    | cons x l ih =>
      intro hl
      rw [List.map_cons]
      unfold compL
      have w13 : ((wipeT t [13]).set 13 (some x.d))[13]? = some (some x.d) := List.getElem?_set_self (by simp [wipeT, tl])
      have w6 : ((wipeT t [13]).set 13 (some x.d))[6]? = some (some r.d) := by simp [wipeT, List.getElem?_set_ne, t6]
      have est : stepC cl (wipeT t [13]) (.nm 13) tYesM (mTup (aCons (mVar 13) (aCons (mCall 26 (aCons (mVar 13) (aCons (mVar 6) aNil))) aNil))) x.d h = .ok (some (knD (x, evC r x))) h := by
        unfold stepC asg
        simp only [tYes_ev, mTup_ev, mCall_ev, aCons_ev, mVar_ev, w6, w13, aNil_ev, bind_ok, oc x (hl x (List.mem_cons_self ..)), if_true]
        rfl
      rw [if_pos hok, est, bind_ok, ih (fun y hy => hl y (List.mem_cons_of_mem _ hy)), bind_ok]
      rfl
  rw [key ts hg, bind_ok]
  exact freshF _ (by simp only [List.length_map]; omega)
end K24

namespace K24
open PySem L2 Ev
abbrev dk20 : D := .lst ((List.range' 21 43).map D.ref)
theorem dk_cut20 (h : Hd) {r : Int} (h1 : 0 ≤ r) (h2 : r < 8) : ∃ js : List Nat, dCut false dk20 none (some (1 + r)) h = .ok (.lst (js.map D.ref)) h ∧ (∀ j ∈ js, 1 ≤ j ∧ j ≤ 63) ∧ js ≠ [] ∧ js.length ≤ 8 := by
  refine ⟨(List.range' 21 43).take (1 + r).toNat, ?_, fun j hj => ?_, ?_, ?_⟩
  · rw [cut_take _ h (by omega) (by rw [List.length_map, List.length_range']; omega), List.map_take]
  · obtain ⟨i, hi, rfl⟩ := List.mem_range'.mp (List.mem_of_mem_take hj)
    omega
  · intro z
    have := congrArg List.length z
    rw [List.length_take, List.length_range'] at this
    simp at this
    omega
  · rw [List.length_take]; omega
theorem c_cardside {n : Nat} (hn : 100 ≤ n) {h : Hd} (d : Dks h) {nm : List (List Nat)} (g : h[64]? = some (.lst (nm.map D.str))) (hl : nm.length = 6) : ∃ H', callN T n 27 [.ref 1, dk20, .ref 64] h = .ok (.bl true) H' := by
  obtain ⟨m, rfl⟩ := lvl (k := 1) (n := n) (by omega)
  rw [call_at (F := ⟨3, 14, b__law_card_side⟩) rfl]
  have h65 : 64 < h.length := (List.getElem?_eq_some_iff.mp g).1
  obtain ⟨r, H1, e1, s1, r1, r2⟩ := draw (n := m) (i := 1) (many := 8) (by omega) d (by omega) (by omega) (by omega) (by omega)
  obtain ⟨js, ej, j1, j2, j3⟩ := dk_cut20 H1 r1 r2
  have g1 : H1[64]? = some (.lst (nm.map D.str)) := (s1.same 64 (.inr (by omega))).trans g
  have L65 : 64 < H1.length := by rw [s1.len]; exact h65
  obtain ⟨cs, H2, e2, d2, l2, g2, nl, sm2, rn, cl, _⟩ := c_code (n := m) (K := 64) (most := 0) (by omega) s1.dks js j1 j2 (by omega) (by omega) L65 g1 hl
  have nl := nl rfl
  have n2 : H2[64]? = some (.lst (nm.map D.str)) := (sm2 64 (.inr (by omega)) L65).trans g1
  clear sm2 l2
  generalize H1.length = L at *
  obtain ⟨ls, H3, e3, s3⟩ := comp_labels (n := m) (by omega) d2 n2 hl (t := [some (.ref 1), some dk20, some (.ref 64), some (.ref L), none, none, none, none, none, none, none, none, none, none]) rfl rfl rfl
  have n3 := (s3.same 64 (.inr (by omega))).trans n2
  obtain ⟨o, H4, e4, s4, o1, o2⟩ := draw (n := m) (i := 1) (many := 8) (by omega) s3.dks (by omega) (by omega) (by omega) (by omega)
  have s4 := s3.trans s4
  have a3 := add_ref n3 (ys := [.str [], .str []]) (by simp [hl])
  obtain ⟨od, om, eo⟩ := ix_mem (xs := nm.map D.str ++ [.str [], .str []]) H4 o1 (by simp [hl]; omega)
  obtain ⟨ow, rfl⟩ : ∃ ow : List Nat, od = .str ow := by
    rcases List.mem_append.mp om with om | om
    · obtain ⟨w, _, rfl⟩ := List.mem_map.mp om
      exact ⟨w, rfl⟩
    · simp at om
      exact ⟨[], om⟩
  obtain ⟨k, H5, e5, s5, k1, k2⟩ := draw (n := m) (i := 1) (many := 6) (by omega) s4.dks (by omega) (by omega) (by omega) (by omega)
  have s5 := s4.trans s5
  obtain ⟨kd, km, ek⟩ := ix_ref ((s5.same 64 (.inr (by omega))).trans n2) k1 (by simpa [hl] using k2)
  obtain ⟨kw, _, rfl⟩ := List.mem_map.mp km
  obtain ⟨u, H6, e6, s6, u1, u2⟩ := draw (n := m) (i := 1) (many := 6) (by omega) s5.dks (by omega) (by omega) (by omega) (by omega)
  have s6 := s5.trans s6
  obtain ⟨ud, um, eu⟩ := ix_ref ((s6.same 64 (.inr (by omega))).trans n2) u1 (by simpa [hl] using u2)
  obtain ⟨uw, _, rfl⟩ := List.mem_map.mp um
  obtain ⟨v, H7, e7, s7, v1, v2⟩ := draw (n := m) (i := 1) (many := 2) (by omega) s6.dks (by omega) (by omega) (by omega) (by omega)
  have s7 := s6.trans s7
  obtain ⟨p, H8, e8, s8, p1, p2⟩ := draw (n := m) (i := 1) (many := 5) (by omega) s7.dks (by omega) (by omega) (by omega) (by omega)
  have s8 := s7.trans s8
  obtain ⟨w, H9, e9, s9, w1, w2⟩ := draw (n := m) (i := 1) (many := 21) (by omega) s8.dks (by omega) (by omega) (by omega) (by omega)
  have s9 := s8.trans s9
  obtain ⟨row, hrow⟩ : ∃ row : Row, row = ⟨kw, uw, decide (v = 0), ow, p, w, ls⟩ := ⟨_, rfl⟩
  have rok : row.ok := by rw [hrow]; exact ⟨p1, by show p ≤ 4; omega, w1, by show w ≤ 20; omega⟩
  have ca : CodeAt H9 (.ref L) cs := .inr ⟨L, rfl, (s9.same L (.inr (by omega))).trans g2⟩
  obtain ⟨q, hq, hw, hgood, hflat⟩ := run_query rn
  have hflat := hflat nl
  have hhw := run_hw rn hq
  have b1 := hwT_le cs
  have b2 := wtT_le cs
  have b3 := ht_hw q
  have b4 := core_hw q
  have b5 := core_cn q
  have b6 := nd_cn (core q)
  have et := c_tree (n := m) (h := H9) (by omega) ca rn hq (by omega)
  have ec := c_core q m H9 (by omega)
  have etr := c_truths (n := m) (h := H9) (y := .lst [.lst [.lst [], .lst [], .lst []]]) (r := row) (by omega) ca rn hq nl (by omega)
  have elc := c_lcore (n := m) (h := H9) (by omega) ca rn hq (by omega)
  have elt := c_ltests (n := m) (c := core q) (h := H9) (by omega) (by omega) (by omega)
  have tg := tg_core q hgood hflat
  have hlen := tsC_len (core q)
  have hev : evC row (core q) = evQ row q := ev_core rok q hflat
  have hts : ∀ x ∈ tsC (core q), x ∈ (core q).tests := fun x hx => tsC_mem.mp hx
  have hst : ∀ x ∈ (core q).tests, x ∈ tsC (core q) := fun x hx => tsC_mem.mpr hx
  have hnd := tsC_nodup (core q)
  have hht : ∀ x ∈ tsC (core q), x.ht ≤ 390 := fun x hx => by have := tests_ht _ x (hts x hx); omega
  have hcht : (core q).ht + 3 ≤ m := by omega
  have hcht2 : (core q).ht ≤ 390 := by omega
  have hcnd : (core q).nd ≤ 1000000 := by omega
  have em : mCall 21 (aCons (mLst false (aCons (mCall 20 (aCons (mVar 3) aNil)) aNil)) aNil) (callN T m) [some (.ref 1), some dk20, some (.ref 64), some (.ref L), some (.lst (ls.map D.str)), some (.str ow), some row.d, some (core q).d, some (.bl (evQ row q)), none, none, none, none, none] H9 = .ok (.lst ((tsC (core q)).map C.d)) H9 := by
    simp only [mCall_ev, aCons_ev, mLst_ev, mVar_ev, List.getElem?_cons_succ, List.getElem?_cons_zero, aNil_ev, bind_ok, elc, freshF _ (show ([(core q).d] : List D).length ≤ 16777216 by simp), elt]
  have ekn := comp_known (n := m) (r := row) (by omega) (fun x hx => tg x (hts x hx)) (by omega) em rfl rfl
  obtain ⟨kn, hkn⟩ : ∃ kn : List (C × Bool), kn = (tsC (core q)).map fun x => (x, evC row x) := ⟨_, rfl⟩
  have kf : kn.map (·.1) = tsC (core q) := by rw [hkn, List.map_map]; exact List.map_id _
  have klen : kn.length = (tsC (core q)).length := by rw [hkn, List.length_map]
  have kht : ∀ x ∈ kn, x.1.ht ≤ 390 := fun x hx => hht x.1 (by rw [← kf]; exact List.mem_map.mpr ⟨x, hx, rfl⟩)
  have kev : ∀ x ∈ kn, x.2 = evC row x.1 := by
    intro x hx
    rw [hkn] at hx
    obtain ⟨y, _, rfl⟩ := List.mem_map.mp hx
    rfl
  have kall : v3 (kap kn) (core q) = some (evC row (core q)) := v3_whole (core q) (fun x hx => by rw [hkn]; exact kap_ev (f := evC row) (hst x hx))
  rw [← hkn] at ekn
  have ev1 := c_value (n := m) (c := core q) (kn := kn) (h := H9) hcht hcnd hcht2 kht (by rw [kf]; exact hnd) (by omega)
  rw [kall, hev] at ev1
  have is1 := c_isval (n := m) (v := some (evQ row q)) (w := some (evQ row q)) (h := H9) (by omega)
  obtain ⟨x, H10, e10, s10, x1, x2⟩ := draw (n := m) (i := 1) (many := (kn.length : Nat) + 1) (by omega) s9.dks (by omega) (by omega) (by omega) (by omega)
  obtain ⟨kn', hkn'⟩ : ∃ kn' : List (C × Bool), kn' = kn.take x.toNat ++ kn.drop (x + 1).toNat := ⟨_, rfl⟩
  have ksub : List.Sublist kn' kn := by
    rw [hkn']
    have h1 : List.Sublist (kn.drop (x + 1).toNat) (kn.drop x.toNat) := by
      rw [show (x + 1).toNat = x.toNat + 1 by omega, ← List.drop_drop]
      exact List.drop_sublist _ _
    have h2 := List.Sublist.append (List.Sublist.refl (kn.take x.toNat)) h1
    rwa [List.take_append_drop] at h2
  have ev2 := c_value (n := m) (c := core q) (kn := kn') (h := H10) hcht hcnd hcht2 (fun y hy => kht y (ksub.subset hy)) ((ksub.map _).nodup (by rw [kf]; exact hnd)) (by have := ksub.length_le; omega)
  have hpart := v3_part (r := row) (κ := kap kn') (core q) (fun y _ => kap_sub (f := evC row) (fun z hz => kev z (ksub.subset hz)) y)
  rw [hev] at hpart
  generalize v3 (kap kn') (core q) = told at ev2 hpart
  have is2 := c_isval (n := m) (v := told) (w := some (evQ row q)) (h := H10) (by omega)
  have kz : kn.length ≤ 1000000 := by omega
  clear tg hts hst hht em
  generalize core q = cq at *
  have ea : ([D.ref 1, dk20, .ref 64].map some ++ List.replicate (14 - 3) (none : Option D)) = [some (.ref 1), some dk20, some (.ref 64), none, none, none, none, none, none, none, none, none, none, none] := rfl
  rw [runFn_at (np := 3) (nn := 14) rfl ea]
  generalize callN T m = c at *
  generalize dk20 = dk at *
  have m3 : sSet 3 (mCall 15 (aCons (mCut false (mVar 1) pNo (pYes (mOp (dAdd false) (mC (.int 1)) (mCall 12 (aCons (mVar 0) (aCons (mC (.int 8)) aNil)))))) (aCons (mVar 2) (aCons (mC (.int 0)) aNil)))) c [some (.ref 1), some dk, some (.ref 64), none, none, none, none, none, none, none, none, none, none, none] h = .nx [some (.ref 1), some dk, some (.ref 64), some (.ref L), none, none, none, none, none, none, none, none, none, none] H2 := by
    simp [e1, dAdd, ej, e2]
  have m4 : sSet 4 (mComp false (iVal (mVar 2)) (.nm 12) [12] (tCmp (mOp (dEq false) (mCall 12 (aCons (mVar 0) (aCons (mC (.int 2)) aNil))) (mC (.int 0)))) (mVar 12)) c [some (.ref 1), some dk, some (.ref 64), some (.ref L), none, none, none, none, none, none, none, none, none, none] H2 = .nx [some (.ref 1), some dk, some (.ref 64), some (.ref L), some (.lst (ls.map D.str)), none, none, none, none, none, none, none, none, none] H3 := by
    rw [sSet_ev, e3, toS_ok]; rfl
  have m5 : sSet 5 (mOp dIx (mOp (dAdd false) (mVar 2) (mLst false (aCons (mC (.str [])) (aCons (mC (.str [])) aNil)))) (mCall 12 (aCons (mVar 0) (aCons (mC (.int 8)) aNil)))) c [some (.ref 1), some dk, some (.ref 64), some (.ref L), some (.lst (ls.map D.str)), none, none, none, none, none, none, none, none, none] H3 = .nx [some (.ref 1), some dk, some (.ref 64), some (.ref L), some (.lst (ls.map D.str)), some (.str ow), none, none, none, none, none, none, none, none] H4 := by
    simp [a3, e4, eo]
  have m6 : sSet 6 (mTup (aCons (mOp dIx (mVar 2) (mCall 12 (aCons (mVar 0) (aCons (mC (.int 6)) aNil)))) (aCons (mOp dIx (mVar 2) (mCall 12 (aCons (mVar 0) (aCons (mC (.int 6)) aNil)))) (aCons (mOp (dEq false) (mCall 12 (aCons (mVar 0) (aCons (mC (.int 2)) aNil))) (mC (.int 0))) (aCons (mVar 5) aNil))))) c [some (.ref 1), some dk, some (.ref 64), some (.ref L), some (.lst (ls.map D.str)), some (.str ow), none, none, none, none, none, none, none, none] H4 = .nx [some (.ref 1), some dk, some (.ref 64), some (.ref L), some (.lst (ls.map D.str)), some (.str ow), some (.tup [.str kw, .str uw, .bl (decide (v = 0)), .str ow]), none, none, none, none, none, none, none] H7 := by
    simp [e5, ek, e6, eu, e7, eq_int]
  have m6b : sSet 6 (mOp (dAdd false) (mVar 6) (mTup (aCons (mCall 12 (aCons (mVar 0) (aCons (mC (.int 5)) aNil))) (aCons (mCall 12 (aCons (mVar 0) (aCons (mC (.int 21)) aNil))) (aCons (mVar 4) aNil))))) c [some (.ref 1), some dk, some (.ref 64), some (.ref L), some (.lst (ls.map D.str)), some (.str ow), some (.tup [.str kw, .str uw, .bl (decide (v = 0)), .str ow]), none, none, none, none, none, none, none] H7 = .nx [some (.ref 1), some dk, some (.ref 64), some (.ref L), some (.lst (ls.map D.str)), some (.str ow), some row.d, none, none, none, none, none, none, none] H9 := by
    simp [e8, e9, dAdd, hrow, Row.d]
  have m7 : sSet 7 (mCall 3 (aCons (mCall 16 (aCons (mVar 3) aNil)) aNil)) c [some (.ref 1), some dk, some (.ref 64), some (.ref L), some (.lst (ls.map D.str)), some (.str ow), some row.d, none, none, none, none, none, none, none] H9 = .nx [some (.ref 1), some dk, some (.ref 64), some (.ref L), some (.lst (ls.map D.str)), some (.str ow), some row.d, some cq.d, none, none, none, none, none, none] H9 := by
    simp [et, ec]
  have m8 : sSet 8 (mOp dIx (mCall 18 (aCons (mVar 3) (aCons (mLst false (aCons (mVar 6) aNil)) (aCons (mLst false (aCons (mLst false (aCons (mLst false aNil) (aCons (mLst false aNil) (aCons (mLst false aNil) aNil)))) aNil)) aNil)))) (mC (.int 0))) c [some (.ref 1), some dk, some (.ref 64), some (.ref L), some (.lst (ls.map D.str)), some (.str ow), some row.d, some cq.d, none, none, none, none, none, none] H9 = .nx [some (.ref 1), some dk, some (.ref 64), some (.ref L), some (.lst (ls.map D.str)), some (.str ow), some row.d, some cq.d, some (.bl (evQ row q)), none, none, none, none, none] H9 := by
    have := bix (evQ row q) H9
    simp [etr, this]
  have m9 : sSet 9 (mComp false (iVal (mCall 21 (aCons (mLst false (aCons (mCall 20 (aCons (mVar 3) aNil)) aNil)) aNil))) (.nm 13) [13] tYesM (mTup (aCons (mVar 13) (aCons (mCall 26 (aCons (mVar 13) (aCons (mVar 6) aNil))) aNil)))) c [some (.ref 1), some dk, some (.ref 64), some (.ref L), some (.lst (ls.map D.str)), some (.str ow), some row.d, some cq.d, some (.bl (evQ row q)), none, none, none, none, none] H9 = .nx [some (.ref 1), some dk, some (.ref 64), some (.ref L), some (.lst (ls.map D.str)), some (.str ow), some row.d, some cq.d, some (.bl (evQ row q)), some (.lst (kn.map knD)), none, none, none, none] H9 := by
    rw [sSet_ev, ekn, toS_ok]; rfl
  have gt : ∀ (l : List (C × Bool)) (h : Hd), l.length ≤ 1000000 → gTuple [.lst (l.map knD)] h = .ok (.tup (l.map knD)) h := fun l h hz => by
    have : (l.map knD).length ≤ sizeLine := by rw [sizeLine_eq, List.length_map]; omega
    simp [gTuple, seqOf, D.see]
  have m10 : sIf (tNot (tVal (mCall 25 (aCons (mCall 9 (aCons (mVar 7) (aCons (mB gTuple (aCons (mVar 9) aNil)) aNil))) (aCons (mVar 8) aNil))))) (sRet (mC (.bl false))) sNil c [some (.ref 1), some dk, some (.ref 64), some (.ref L), some (.lst (ls.map D.str)), some (.str ow), some row.d, some cq.d, some (.bl (evQ row q)), some (.lst (kn.map knD)), none, none, none, none] H9 = .nx [some (.ref 1), some dk, some (.ref 64), some (.ref L), some (.lst (ls.map D.str)), some (.str ow), some row.d, some cq.d, some (.bl (evQ row q)), some (.lst (kn.map knD)), none, none, none, none] H9 := by
    have g1 := gt kn H9 kz
    simp only [vD] at ev1 is1
    generalize kn.map knD = kd at *
    simp [g1, ev1, is1, dTrue, D.see]
  have gl : gLen [.lst (kn.map knD)] H9 = .ok (.int (kn.length : Nat)) H9 := by simp [gLen, D.dict?, D.see]
  have m11 : sSet 10 (mCall 12 (aCons (mVar 0) (aCons (mOp (dAdd false) (mB gLen (aCons (mVar 9) aNil)) (mC (.int 1))) aNil))) c [some (.ref 1), some dk, some (.ref 64), some (.ref L), some (.lst (ls.map D.str)), some (.str ow), some row.d, some cq.d, some (.bl (evQ row q)), some (.lst (kn.map knD)), none, none, none, none] H9 = .nx [some (.ref 1), some dk, some (.ref 64), some (.ref L), some (.lst (ls.map D.str)), some (.str ow), some row.d, some cq.d, some (.bl (evQ row q)), some (.lst (kn.map knD)), some (.int x), none, none, none] H10 := by
    generalize kn.map knD = kd at *
    simp [gl, dAdd, e10]
  have m12 : sSet 11 (mCall 9 (aCons (mVar 7) (aCons (mB gTuple (aCons (mOp (dAdd false) (mCut false (mVar 9) pNo (pYes (mVar 10))) (mCut false (mVar 9) (pYes (mOp (dAdd false) (mVar 10) (mC (.int 1)))) pNo)) aNil)) aNil))) c [some (.ref 1), some dk, some (.ref 64), some (.ref L), some (.lst (ls.map D.str)), some (.str ow), some row.d, some cq.d, some (.bl (evQ row q)), some (.lst (kn.map knD)), some (.int x), none, none, none] H10 = .nx [some (.ref 1), some dk, some (.ref 64), some (.ref L), some (.lst (ls.map D.str)), some (.str ow), some row.d, some cq.d, some (.bl (evQ row q)), some (.lst (kn.map knD)), some (.int x), some (vD told), none, none] H10 := by
    have q1 := cut_take (kn.map knD) H10 x1 (by rw [List.length_map]; exact kz)
    have q2 := cut_drop (kn.map knD) H10 (r := x + 1) (by omega) (by rw [List.length_map]; exact kz)
    have q3 := add_lst (xs := (kn.map knD).take x.toNat) (ys := (kn.map knD).drop (x + 1).toNat) (h := H10) (by rw [List.length_take, List.length_drop, List.length_map]; omega)
    have q4 : (kn.map knD).take x.toNat ++ (kn.map knD).drop (x + 1).toNat = kn'.map knD := by rw [hkn', List.map_append, List.map_take, List.map_drop]
    have q5 : dAdd false (.int x) (.int 1) H10 = .ok (.int (x + 1)) H10 := rfl
    have g2 := gt kn' H10 (by have := ksub.length_le; omega)
    rw [q4] at q3
    simp only [sSet_ev, mCall_ev, aCons_ev, mB_ev, mOp_ev, mCut_ev, mVar_ev, mC_ev, aNil_ev, List.getElem?_cons_succ, List.getElem?_cons_zero, pYes_ev, pNo_ev, bind_ok, dPart_ev, q1, q2, q3, q5, g2, ev2, toS_ok, List.set_cons_succ, List.set_cons_zero]
  have m13 : sRet (mOr (mUn (dIsN false) (mVar 11)) (mCall 25 (aCons (mVar 11) (aCons (mVar 8) aNil)))) c [some (.ref 1), some dk, some (.ref 64), some (.ref L), some (.lst (ls.map D.str)), some (.str ow), some row.d, some cq.d, some (.bl (evQ row q)), some (.lst (kn.map knD)), some (.int x), some (vD told), none, none] H10 = .rt (.bl true) H10 := by
    generalize kn.map knD = kd at *
    rcases hpart with rfl | rfl
    · simp [vD, dIsN, dTrue, D.see]
    · simp only [vD] at is2
      simp [vD, dIsN, dTrue, D.see, is2]
  have hb : b__law_card_side = sSeq (sSet 3 (mCall 15 (aCons (mCut false (mVar 1) pNo (pYes (mOp (dAdd false) (mC (.int 1)) (mCall 12 (aCons (mVar 0) (aCons (mC (.int 8)) aNil)))))) (aCons (mVar 2) (aCons (mC (.int 0)) aNil)))))
    (sSeq (sSet 4 (mComp false (iVal (mVar 2)) (.nm 12) [12] (tCmp (mOp (dEq false) (mCall 12 (aCons (mVar 0) (aCons (mC (.int 2)) aNil))) (mC (.int 0)))) (mVar 12)))
    (sSeq (sSet 5 (mOp dIx (mOp (dAdd false) (mVar 2) (mLst false (aCons (mC (.str [])) (aCons (mC (.str [])) aNil)))) (mCall 12 (aCons (mVar 0) (aCons (mC (.int 8)) aNil)))))
    (sSeq (sSet 6 (mTup (aCons (mOp dIx (mVar 2) (mCall 12 (aCons (mVar 0) (aCons (mC (.int 6)) aNil)))) (aCons (mOp dIx (mVar 2) (mCall 12 (aCons (mVar 0) (aCons (mC (.int 6)) aNil)))) (aCons (mOp (dEq false) (mCall 12 (aCons (mVar 0) (aCons (mC (.int 2)) aNil))) (mC (.int 0))) (aCons (mVar 5) aNil))))))
    (sSeq (sSet 6 (mOp (dAdd false) (mVar 6) (mTup (aCons (mCall 12 (aCons (mVar 0) (aCons (mC (.int 5)) aNil))) (aCons (mCall 12 (aCons (mVar 0) (aCons (mC (.int 21)) aNil))) (aCons (mVar 4) aNil))))))
    (sSeq (sSet 7 (mCall 3 (aCons (mCall 16 (aCons (mVar 3) aNil)) aNil)))
    (sSeq (sSet 8 (mOp dIx (mCall 18 (aCons (mVar 3) (aCons (mLst false (aCons (mVar 6) aNil)) (aCons (mLst false (aCons (mLst false (aCons (mLst false aNil) (aCons (mLst false aNil) (aCons (mLst false aNil) aNil)))) aNil)) aNil)))) (mC (.int 0))))
    (sSeq (sSet 9 (mComp false (iVal (mCall 21 (aCons (mLst false (aCons (mCall 20 (aCons (mVar 3) aNil)) aNil)) aNil))) (.nm 13) [13] tYesM (mTup (aCons (mVar 13) (aCons (mCall 26 (aCons (mVar 13) (aCons (mVar 6) aNil))) aNil)))))
    (sSeq (sIf (tNot (tVal (mCall 25 (aCons (mCall 9 (aCons (mVar 7) (aCons (mB gTuple (aCons (mVar 9) aNil)) aNil))) (aCons (mVar 8) aNil))))) (sRet (mC (.bl false))) sNil)
    (sSeq (sSet 10 (mCall 12 (aCons (mVar 0) (aCons (mOp (dAdd false) (mB gLen (aCons (mVar 9) aNil)) (mC (.int 1))) aNil))))
    (sSeq (sSet 11 (mCall 9 (aCons (mVar 7) (aCons (mB gTuple (aCons (mOp (dAdd false) (mCut false (mVar 9) pNo (pYes (mVar 10))) (mCut false (mVar 9) (pYes (mOp (dAdd false) (mVar 10) (mC (.int 1)))) pNo)) aNil)) aNil))))
    (sRet (mOr (mUn (dIsN false) (mVar 11)) (mCall 25 (aCons (mVar 11) (aCons (mVar 8) aNil))))))))))))))) := rfl
  rw [hb, sSeq_ev, m3, seq_nx, sSeq_ev, m4, seq_nx, sSeq_ev, m5, seq_nx, sSeq_ev, m6, seq_nx, sSeq_ev, m6b, seq_nx, sSeq_ev, m7, seq_nx, sSeq_ev, m8, seq_nx, sSeq_ev, m9, seq_nx, sSeq_ev, m10, seq_nx, sSeq_ev, m11, seq_nx, sSeq_ev, m12, seq_nx, m13, fin_rt]
  unfold fin1
  split
  · exact ⟨_, rfl⟩
  · exact ⟨_, rfl⟩
end K24

namespace K24
open PySem L2 Ev
abbrev dkL : D := .lst ((List.range' 1 63).map D.ref)
theorem dk_ix0 (h : Hd) : dIx dkL (.int 0) h = .ok (.ref 1) h := by
  simp [dIx, dIxS, D.dict?, D.see, ixI]
theorem dk_cut13 (h : Hd) : dCut false dkL (some 1) (some 3) h = .ok (.lst [.ref 2, .ref 3]) h := by
  show fresh false (cutL ((List.range' 1 63).map D.ref) (some 1) (some 3)) h = _
  rw [show cutL ((List.range' 1 63).map D.ref) (some 1) (some 3) = [.ref 2, .ref 3] from rfl, freshF _ (by simp)]
theorem dk_cutD (h : Hd) : dCut false dkL (some 20) none h = .ok dk20 h := by
  show fresh false (cutL ((List.range' 1 63).map D.ref) (some 20) none) h = _
  rw [show cutL ((List.range' 1 63).map D.ref) (some 20) none = (List.range' 21 43).map D.ref from rfl, freshF _ (by simp)]
theorem dk_ix16 (h : Hd) {k : Nat} (hk : k < 4) : dIx dkL (.int (16 + (k : Int))) h = .ok (.ref (17 + k)) h := by
  have : k = 0 ∨ k = 1 ∨ k = 2 ∨ k = 3 := by omega
  rcases this with rfl | rfl | rfl | rfl <;> simp [dIx, dIxS, D.dict?, D.see, ixI]
theorem dk_cut3 (h : Hd) {r : Int} (h1 : 0 ≤ r) (h2 : r < 12) : ∃ js : List Nat, dCut false dkL (some 3) (some (4 + r)) h = .ok (.lst (js.map D.ref)) h ∧ (∀ j ∈ js, 1 ≤ j ∧ j ≤ 63) ∧ js ≠ [] ∧ js.length ≤ 12 := by
  refine ⟨cutL (List.range' 1 63) (some 3) (some (4 + r)), ?_, ?_⟩
  · show fresh false (cutL ((List.range' 1 63).map D.ref) (some 3) (some (4 + r))) h = _
    rw [cutL_map, freshF]
    rw [List.length_map]
    unfold cutL
    rw [List.length_take, List.length_drop, List.length_range']
    omega
  · have e1 : cutI 63 0 (some 3) = 3 := rfl
    obtain ⟨k, rfl⟩ : ∃ k : Nat, r = k := ⟨r.toNat, by omega⟩
    have e2 : cutI 63 63 (some (4 + (k : Int))) = k + 4 := by
      unfold cutI
      simp only
      split <;> omega
    have e : cutL (List.range' 1 63) (some 3) (some (4 + (k : Int))) = ((List.range' 1 63).drop 3).take (k + 1) := by
      unfold cutL
      rw [List.length_range', e1, e2]
      congr 1
    rw [e]
    refine ⟨fun j hj => ?_, ?_, ?_⟩
    · have := List.mem_range'.mp (List.mem_of_mem_drop (List.mem_of_mem_take hj))
      obtain ⟨i, hi, rfl⟩ := this
      omega
    · intro z
      have := congrArg List.length z
      rw [List.length_take, List.length_drop, List.length_range'] at this
      simp at this
    · rw [List.length_take]
      omega
theorem rep_flat (k : Nat) (d : D) : (List.replicate k [d]).flatten = List.replicate k d := by
  induction k with
  | zero => rfl
  | succ k ih => rw [List.replicate_succ, List.flatten_cons, ih, List.replicate_succ]; rfl
abbrev notTok : D := .tup [.str [110, 111, 116]]
theorem mul_tok (h : Hd) {k : Int} (h1 : 0 ≤ k) (h2 : k ≤ 1000) : dMul false (.lst [notTok]) (.int k) h = .ok (.lst (List.replicate k.toNat notTok)) h := by
  have e1 : k < 4611686018427387904 := by omega
  have e2 : -4611686018427387904 < k := by omega
  have e3 : k.toNat ≤ 16777216 := by omega
  show (if k < 2 ^ 62 ∧ -(2 ^ 62) < k ∧ [notTok].length * k.toNat ≤ sizeLine then fresh false (List.replicate k.toNat [notTok]).flatten h else .stuck) = _
  rw [if_pos ⟨by rw [show (2 : Int) ^ 62 = 4611686018427387904 from rfl]; exact e1, by rw [show (2 : Int) ^ 62 = 4611686018427387904 from rfl]; exact e2, by rw [sizeLine_eq, List.length_singleton, Nat.one_mul]; exact e3⟩, rep_flat, freshF _ (by rw [List.length_replicate]; exact e3)]
theorem gt_of {α : Type} (f : α → D) (l : List α) (h : Hd) : gTuple [.lst (l.map f)] h = .ok (.tup (l.map f)) h := by
  simp [gTuple, seqOf, D.see]
noncomputable abbrev lkBody : MS := (sSeq (sSet 10 (mCall 24 (aCons (mVar 8) (aCons (mOp dIx (mVar 1) (mOp (dAdd false) (mC (.int 16)) (mVar 9))) aNil))))
  (sIf (tNot (tVal (mCall 25 (aCons (mCall 9 (aCons (mVar 7) (aCons (mB gTuple (aCons (mVar 10) aNil)) aNil))) (aCons (mCall 22 (aCons (mVar 6) (aCons (mVar 10) aNil))) aNil)))))
  (sRet (mC (.bl false)))
  sNil))
/-- the four turns over known tests -/
theorem lk_for {n : Nat} {c : C} (hn : c.ht + 3 ≤ n) (hh : c.ht ≤ 280) (hb : c.nd ≤ 1999) {h : Hd} (d : Dks h) (x0 x2 x3 x4 x5 x9 x10 : Option D) :
    ∃ y9 y10 h', sFor (iRng1 (mC (.int 4))) (.nm 9) lkBody (callN T n) [x0, some dkL, x2, x3, x4, x5, some c.d, some c.d, some (.lst ((tsC c).map C.d)), x9, x10] h = .nx [x0, some dkL, x2, x3, x4, x5, some c.d, some c.d, some (.lst ((tsC c).map C.d)), y9, y10] h' ∧ St h h' := by
  have kn := fun (h1 : Hd) (d1 : Dks h1) (i : Nat) (i1 : 1 ≤ i) (i2 : i ≤ 63) => c_known (n := n) (by omega) d1 i1 i2 (ts := tsC c) (tsC_nodup c) (fun x hx => by have := tests_ht c x (tsC_mem.mp hx); omega) (by have := tsC_len c; omega)
  have vl := fun (kn : List (C × Bool)) (h1 : Hd) (a : ∀ p ∈ kn, p.1.ht ≤ 390) (b : (kn.map (·.1)).Nodup) (z : kn.length ≤ 100000) => c_value (n := n) (c := c) (kn := kn) (h := h1) hn (by omega) (by omega) a b z
  have lv := fun (kn : List (C × Bool)) (h1 : Hd) (a : ∀ p ∈ kn, p.1.ht ≤ 390) (z : kn.length ≤ 100000) => c_lvalue (n := n) (c := c) (kn := kn) (h := h1) (by omega) hb (by omega) a z
  have is := fun (v : Option Bool) (h1 : Hd) => c_isval (n := n) (v := v) (w := v) (h := h1) (by omega)
  have hlen := tsC_len c
  generalize callN T n = cl at *
  have ei : iRng1 (mC (.int 4)) cl [x0, some dkL, x2, x3, x4, x5, some c.d, some c.d, some (.lst ((tsC c).map C.d)), x9, x10] h = .ok ⟨rngD 0 4, none⟩ h := by
    rw [iRng1_ev, mC_ev, bind_ok, dRng1_ok _ (by omega) (by omega)]
    rfl
  refine sFor_gen (b := lkBody) (g := .nm 9) (I := fun ds t h' => ∃ (s : Nat) (m : Nat) (y9 y10 : Option D), ds = (List.range' s m).map (fun (k : Nat) => D.int (k : Int)) ∧ s + m = 4 ∧ t = [x0, some dkL, x2, x3, x4, x5, some c.d, some c.d, some (.lst ((tsC c).map C.d)), y9, y10] ∧ St h h')
    (O := fun y => ∃ y9 y10 h', y = .nx [x0, some dkL, x2, x3, x4, x5, some c.d, some c.d, some (.lst ((tsC c).map C.d)), y9, y10] h' ∧ St h h') ei ?_ ?_ ?_
  · rintro d' ds t h1 ⟨s, m, y9, y10, hds, hsm, rfl, st⟩
    cases m with
    | zero => simp at hds
    | succ m =>
      rw [List.range'_succ, List.map_cons] at hds
      obtain ⟨rfl, rfl⟩ := List.cons.inj hds
      obtain ⟨kk, h2, ek, s2, knd, kht, klen⟩ := kn h1 st.dks (17 + s) (by omega) (by omega)
      have ev := vl kk h2 kht knd (by omega)
      have el := lv kk h2 kht (by omega)
      have ii := is (v3 (kap kk) c) h2
      have ix := dk_ix16 h1 (k := s) (by omega)
      refine ⟨trivial, [x0, some dkL, x2, x3, x4, x5, some c.d, some c.d, some (.lst ((tsC c).map C.d)), some (.int (s : Int)), y10], rfl, ?_⟩
      have m1 : sSet 10 (mCall 24 (aCons (mVar 8) (aCons (mOp dIx (mVar 1) (mOp (dAdd false) (mC (.int 16)) (mVar 9))) aNil))) cl [x0, some dkL, x2, x3, x4, x5, some c.d, some c.d, some (.lst ((tsC c).map C.d)), some (.int (s : Int)), y10] h1 = .nx [x0, some dkL, x2, x3, x4, x5, some c.d, some c.d, some (.lst ((tsC c).map C.d)), some (.int (s : Int)), some (.lst (kk.map knD))] h2 := by
        have ad : dAdd false (.int 16) (.int (s : Int)) h1 = .ok (.int (16 + (s : Int))) h1 := rfl
        simp only [sSet_ev, mCall_ev, aCons_ev, mOp_ev, mVar_ev, mC_ev, aNil_ev, List.getElem?_cons_succ, List.getElem?_cons_zero, bind_ok, ad, ix, ek, toS_ok, List.set_cons_succ, List.set_cons_zero]
      have m2 : sIf (tNot (tVal (mCall 25 (aCons (mCall 9 (aCons (mVar 7) (aCons (mB gTuple (aCons (mVar 10) aNil)) aNil))) (aCons (mCall 22 (aCons (mVar 6) (aCons (mVar 10) aNil))) aNil))))) (sRet (mC (.bl false))) sNil cl [x0, some dkL, x2, x3, x4, x5, some c.d, some c.d, some (.lst ((tsC c).map C.d)), some (.int (s : Int)), some (.lst (kk.map knD))] h2 = .nx [x0, some dkL, x2, x3, x4, x5, some c.d, some c.d, some (.lst ((tsC c).map C.d)), some (.int (s : Int)), some (.lst (kk.map knD))] h2 := by
        have g1 := gt_of knD kk h2
        generalize kk.map knD = kd at *
        generalize vD (v3 (kap kk) c) = vv at *
        simp only [sIf_ev, tNot_ev, tVal_ev, mCall_ev, mB_ev, aCons_ev, mVar_ev, aNil_ev, List.getElem?_cons_succ, List.getElem?_cons_zero, bind_ok, g1, ev, el, ii, dTrue, D.see, toS_ok, decide_true]
        rfl
      unfold lkBody
      rw [sSeq_ev, m1, seq_nx, m2]
      exact .nx ⟨s + 1, m, _, _, rfl, by omega, rfl, st.trans s2⟩
  · rintro t h1 ⟨s, m, y9, y10, hds, hsm, rfl, st⟩
    exact ⟨trivial, y9, y10, h1, rfl, st⟩
  · exact ⟨0, 4, x9, x10, by rw [rngD_eq]; rfl, rfl, rfl, St.refl d⟩
end K24

namespace K24
open PySem L2 Ev
theorem st13 {c : Calls} {H H' : Hd} {k : D} {x0 x1 x4 x5 x6 x7 x8 x9 x10 : Option D} {dk : D} {v : D} (ec : ∀ h, dCut false dk (some 20) none h = .ok k h) (e : c 27 [.ref 1, k, .ref 64] H = .ok v H') : sRet (mCall 27 (aCons (mVar 2) (aCons (mCut false (mVar 1) (pYes (mC (.int 20))) pNo) (aCons (mVar 3) aNil)))) c [x0, some dk, some (.ref 1), some (.ref 64), x4, x5, x6, x7, x8, x9, x10] H = .rt v H' := by
  simp [ec, e]
theorem law_true (ns : List Int) (hl : ns.length ≤ 63) : ∃ h', runFn ⟨1, 11, b_law⟩ (callN (tab.map (·.2.2)) 207) [.scr (ns.map D.int)] [] = .ok (.bl true) h' := by
  obtain ⟨N, hN⟩ : ∃ N, N = 207 := ⟨_, rfl⟩
  obtain ⟨H0, e0, l0, k0⟩ := c_decks (n := N) (by omega) ns hl
  have d0 : Dks H0 := ⟨by omega, k0⟩
  obtain ⟨nm, H1, e1, d1, l1, g1, s1, nl, nu⟩ := c_names23 (n := N) (by omega) d0
  rw [l0] at e1 g1 l1
  obtain ⟨r, H2, e2, st2, r1, r2⟩ := draw (n := N) (i := 1) (many := 12) (by omega) d1 (by omega) (by omega) (by omega) (by omega)
  obtain ⟨js, ej, j1, j2, j3⟩ := dk_cut3 H2 r1 r2
  have g2 : H2[64]? = some (.lst (nm.map D.str)) := (st2.same 64 (.inr (by omega))).trans g1
  have l2 : H2.length = 65 := by rw [st2.len, l1]
  obtain ⟨cs, H3, e3, d3, l3, g3, lk3, s3, rn, cl, hb3⟩ := c_code (n := N) (K := 64) (most := 12) (by omega) st2.dks js j1 j2 (by omega) (by omega) (by omega) g2 nl
  rw [l2] at e3 g3 l3
  have n3 : H3[64]? = some (.lst (nm.map D.str)) := (s3 64 (.inr (by omega)) (by omega)).trans g2
  obtain ⟨a, H4, e4, st4, a1, a2⟩ := draw (n := N) (i := 1) (many := 170) (by omega) d3 (by omega) (by omega) (by omega) (by omega)
  obtain ⟨b, H5, e5, st5, b1, b2⟩ := draw (n := N) (i := 1) (many := 4) (by omega) st4.dks (by omega) (by omega) (by omega) (by omega)
  have st5 := st4.trans st5
  obtain ⟨zd, zm, ez⟩ := ix_mem (xs := [.int 0, .int 0, .int 0, .int a]) H5 b1 (by simpa using b2)
  obtain ⟨k, rfl, k1, k2⟩ : ∃ k : Int, zd = .int k ∧ 0 ≤ k ∧ k ≤ 169 := by
    simp only [List.mem_cons, List.not_mem_nil, or_false] at zm
    rcases zm with rfl | rfl | rfl | rfl <;> exact ⟨_, rfl, by omega, by omega⟩
  have em := mul_tok H5 k1 (by omega)
  obtain ⟨u, H6, e6, st6, u1, u2⟩ := draw (n := N) (i := 1) (many := 2) (by omega) st5.dks (by omega) (by omega) (by omega) (by omega)
  have st6 := st5.trans st6
  have n6 := (st6.same 64 (.inr (by omega))).trans n3
  have c6 := (st6.same 65 (.inr (by omega))).trans g3
  obtain ⟨cs', hcs, rn', cl', hw', wt'⟩ : ∃ cs' : List Tk, cs' = (if u = 0 then cs ++ List.replicate k.toNat .nt else cs.take 1 ++ List.replicate k.toNat .nt ++ cs.drop 1) ∧ Run 0 cs' 1 ∧ cs'.length ≤ 900 ∧ hwT cs' = hwT cs + k.toNat ∧ wtT cs' = wtT cs + 2 * k.toNat := by
    have := rn.more k.toNat
    refine ⟨_, rfl, ?_, ?_, ?_, ?_⟩
    · split
      · exact this.1
      · exact this.2
    · split
      · rw [List.length_append, List.length_replicate]; omega
      · simp only [List.length_append, List.length_take, List.length_drop, List.length_replicate]; omega
    · split
      · rw [hwT_app, hwT_nt]
      · rw [hwT_app, hwT_app, hwT_nt]
        have := hwT_app (cs.take 1) (cs.drop 1)
        rw [List.take_append_drop] at this
        omega
    · split
      · rw [wtT_app, wtT_nt]
      · rw [wtT_app, wtT_app, wtT_nt]
        have := wtT_app (cs.take 1) (cs.drop 1)
        rw [List.take_append_drop] at this
        omega
  have mD : ∀ n, (List.replicate n Tk.nt).map Tk.d = List.replicate n notTok := fun n => by rw [List.map_replicate]; rfl
  have cD : cs'.map Tk.d = (if u = 0 then cs.map Tk.d ++ List.replicate k.toNat notTok else (cs.map Tk.d).take 1 ++ List.replicate k.toNat notTok ++ (cs.map Tk.d).drop 1) := by
    rw [hcs]
    split
    · rw [List.map_append, mD]
    · rw [List.map_append, List.map_append, mD, List.map_take, List.map_drop]
  obtain ⟨q, hq, hw, hgood, _⟩ := run_query rn'
  have hhw := run_hw rn' hq
  have q1 := hwT_le cs
  have q2 := wtT_le cs
  have q3 := ht_hw q
  have q4 := core_hw q
  have q5 := core_cn q
  have q6 := nd_cn (core q)
  have q7 := cn_ts (core q)
  have ca : CodeAt H6 (.lst (cs'.map Tk.d)) cs' := .inl rfl
  have et := c_tree (n := N) (h := H6) (by omega) ca rn' hq (by omega)
  have ec := c_core q N H6 (by omega)
  have elc := c_lcore (n := N) (h := H6) (by omega) ca rn' hq (by omega)
  have elt := c_ltests (n := N) (c := core q) (h := H6) (by omega) (by omega) (by omega)
  have ets := c_tests (n := N) (c := core q) (h := H6) (by omega) (by omega) (by omega)
  have sm1 := c_same (n := N) (x := (core q).d) (h := H6) (by omega) (gd_C _) (by omega)
  have sm2 := c_same (n := N) (x := .tup ((tsC (core q)).map C.d)) (h := H6) (by omega) (gd_ts _) (by omega)
  obtain ⟨y9, y10, H7, e7, st7⟩ := lk_for (n := N) (c := core q) (by omega) (by omega) (by omega) (h := H6) st6.dks (some (.scr (ns.map D.int))) (some (.ref 1)) (some (.ref 64)) (some (.lst (cs'.map Tk.d))) (some (.lst (List.replicate k.toNat notTok))) none none
  have n7 := (st7.same 64 (.inr (by omega))).trans n6
  obtain ⟨H8, e8⟩ := c_cardside (n := N) (by omega) st7.dks n7 nl
  clear q1 q2 q3 q4 q5 q6 q7 hhw hw hgood
  have cT : callN (tab.map (·.2.2)) 207 = callN T N := by rw [hN]
  rw [cT]
  generalize callN T N = c at *
  have m1 : sSet 1 (mCall 11 (aCons (mVar 0) aNil)) c [some (.scr (ns.map D.int)), none, none, none, none, none, none, none, none, none, none] [] = .nx [some (.scr (ns.map D.int)), some dkL, none, none, none, none, none, none, none, none, none] H0 := by simp [e0]
  generalize D.scr (ns.map D.int) = sc at *
  have i0 := dk_ix0
  have i1 := dk_cut13
  have i2 := dk_cutD
  generalize dk20 = dk' at *
  generalize dkL = dk at *
  have m2 : sSet 2 (mOp dIx (mVar 1) (mC (.int 0))) c [some sc, some dk, none, none, none, none, none, none, none, none, none] H0 = .nx [some sc, some dk, some (.ref 1), none, none, none, none, none, none, none, none] H0 := by simp [i0]
  have m3 : sSet 3 (mCall 13 (aCons (mCut false (mVar 1) (pYes (mC (.int 1))) (pYes (mC (.int 3)))) aNil)) c [some sc, some dk, some (.ref 1), none, none, none, none, none, none, none, none] H0 = .nx [some sc, some dk, some (.ref 1), some (.ref 64), none, none, none, none, none, none, none] H1 := by simp [i1, e1]
  have m4 : sSet 4 (mCall 15 (aCons (mCut false (mVar 1) (pYes (mC (.int 3))) (pYes (mOp (dAdd false) (mC (.int 4)) (mCall 12 (aCons (mVar 2) (aCons (mC (.int 12)) aNil)))))) (aCons (mVar 3) (aCons (mC (.int 12)) aNil)))) c [some sc, some dk, some (.ref 1), some (.ref 64), none, none, none, none, none, none, none] H1 = .nx [some sc, some dk, some (.ref 1), some (.ref 64), some (.ref 65), none, none, none, none, none, none] H3 := by
    simp [e2, dAdd, ej, e3]
  obtain ⟨more, hmore⟩ : ∃ more, more = List.replicate k.toNat notTok := ⟨_, rfl⟩
  have ml : more.length ≤ 300 := by rw [hmore, List.length_replicate]; omega
  rw [← hmore] at em cD e7
  have m5 : sSet 5 (mOp (dMul false) (mLst false (aCons (mTup (aCons (mC (.str [110, 111, 116])) aNil)) aNil)) (mOp dIx (mLst false (aCons (mC (.int 0)) (aCons (mC (.int 0)) (aCons (mC (.int 0)) (aCons (mCall 12 (aCons (mVar 2) (aCons (mC (.int 170)) aNil))) aNil))))) (mCall 12 (aCons (mVar 2) (aCons (mC (.int 4)) aNil))))) c [some sc, some dk, some (.ref 1), some (.ref 64), some (.ref 65), none, none, none, none, none, none] H3 = .nx [some sc, some dk, some (.ref 1), some (.ref 64), some (.ref 65), some (.lst more), none, none, none, none, none] H5 := by
    simp [e4, e5, ez, em]
  have m6 : sIf (tCmp (mOp (dEq false) (mCall 12 (aCons (mVar 2) (aCons (mC (.int 2)) aNil))) (mC (.int 0)))) (sSet 4 (mOp (dAdd false) (mVar 4) (mVar 5))) (sSet 4 (mOp (dAdd false) (mOp (dAdd false) (mCut false (mVar 4) pNo (pYes (mC (.int 1)))) (mVar 5)) (mCut false (mVar 4) (pYes (mC (.int 1))) pNo))) c [some sc, some dk, some (.ref 1), some (.ref 64), some (.ref 65), some (.lst more), none, none, none, none, none] H5 = .nx [some sc, some dk, some (.ref 1), some (.ref 64), some (.lst (cs'.map Tk.d)), some (.lst more), none, none, none, none, none] H6 := by
    have zl : (cs.map Tk.d).length ≤ 100 := by rw [List.length_map]; omega
    rw [cD]
    generalize cs.map Tk.d = cd at *
    by_cases hu : u = 0
    · have q1 := add_ref c6 (ys := more) (by omega)
      rw [if_pos hu]
      simp [e6, eq_int, hu, q1]
    · have q1 := cut_take cd H6 (r := 1) (by omega) (by omega)
      have q2 := cut_drop cd H6 (r := 1) (by omega) (by omega)
      have q3 := add_lst (xs := cd.take 1) (ys := more) (h := H6) (by rw [List.length_take]; omega)
      have q4 := add_lst (xs := cd.take 1 ++ more) (ys := cd.drop 1) (h := H6) (by rw [List.length_append, List.length_take, List.length_drop]; omega)
      have q5 : ∀ lo hi, dCut false (.ref 65) lo hi H6 = dCut false (.lst cd) lo hi H6 := fun lo hi => dCut_ref c6 lo hi
      rw [show (1 : Int).toNat = 1 from rfl] at q1 q2
      rw [if_neg hu]
      simp only [sIf_ev, tCmp_ev, mOp_ev, mCall_ev, aCons_ev, mVar_ev, mC_ev, aNil_ev, bind_ok, List.getElem?_cons_succ, List.getElem?_cons_zero, e6, eq_int, hu, decide_false, dBl_ev, toS_ok, sSet_ev, mCut_ev, pNo_ev, pYes_ev, dPart_ev, q5, q1, q2, q3, q4]
      rfl
  generalize cs'.map Tk.d = cd at *
  generalize core q = cq at *
  have m7 : sSet 6 (mCall 20 (aCons (mVar 4) aNil)) c [some sc, some dk, some (.ref 1), some (.ref 64), some (.lst cd), some (.lst more), none, none, none, none, none] H6 = .nx [some sc, some dk, some (.ref 1), some (.ref 64), some (.lst cd), some (.lst more), some cq.d, none, none, none, none] H6 := by simp [elc]
  have m8 : sSet 7 (mCall 3 (aCons (mCall 16 (aCons (mVar 4) aNil)) aNil)) c [some sc, some dk, some (.ref 1), some (.ref 64), some (.lst cd), some (.lst more), some cq.d, none, none, none, none] H6 = .nx [some sc, some dk, some (.ref 1), some (.ref 64), some (.lst cd), some (.lst more), some cq.d, some cq.d, none, none, none] H6 := by simp [et, ec]
  have m9 : sSet 8 (mCall 21 (aCons (mLst false (aCons (mVar 6) aNil)) aNil)) c [some sc, some dk, some (.ref 1), some (.ref 64), some (.lst cd), some (.lst more), some cq.d, some cq.d, none, none, none] H6 = .nx [some sc, some dk, some (.ref 1), some (.ref 64), some (.lst cd), some (.lst more), some cq.d, some cq.d, some (.lst ((tsC cq).map C.d)), none, none] H6 := by simp [elt]
  have m10 : sIf (tOr (tNot (tVal (mCall 23 (aCons (mVar 7) (aCons (mVar 6) aNil))))) (tNot (tVal (mCall 23 (aCons (mCall 6 (aCons (mVar 7) aNil)) (aCons (mB gTuple (aCons (mVar 8) aNil)) aNil)))))) (sRet (mC (.bl false))) sNil c [some sc, some dk, some (.ref 1), some (.ref 64), some (.lst cd), some (.lst more), some cq.d, some cq.d, some (.lst ((tsC cq).map C.d)), none, none] H6 = .nx [some sc, some dk, some (.ref 1), some (.ref 64), some (.lst cd), some (.lst more), some cq.d, some cq.d, some (.lst ((tsC cq).map C.d)), none, none] H6 := by
    have g1 := gt_of C.d (tsC cq) H6
    generalize (tsC cq).map C.d = td at *
    simp only [sIf_ev, tOr_ev, tNot_ev, tVal_ev, mCall_ev, mB_ev, aCons_ev, mVar_ev, aNil_ev, List.getElem?_cons_succ, List.getElem?_cons_zero, bind_ok, g1, ets, sm1, sm2, dTrue, D.see, Bool.not_true, Bool.false_eq_true, if_false, toS_ok]
    rfl
  have ea : ([sc].map some ++ List.replicate (11 - 1) (none : Option D)) = [some sc, none, none, none, none, none, none, none, none, none, none] := rfl
  refine ⟨[], ?_⟩
  rw [runFn_at (np := 1) (nn := 11) rfl ea]
  have m13 := st13 (x0 := some sc) (x1 := none) (x4 := some (.lst cd)) (x5 := some (.lst more)) (x6 := some cq.d) (x7 := some cq.d) (x8 := some (.lst ((tsC cq).map C.d))) (x9 := y9) (x10 := y10) (dk := dk) i2 e8
  have hb : b_law = sSeq (sSet 1 (mCall 11 (aCons (mVar 0) aNil))) (sSeq (sSet 2 (mOp dIx (mVar 1) (mC (.int 0)))) (sSeq (sSet 3 (mCall 13 (aCons (mCut false (mVar 1) (pYes (mC (.int 1))) (pYes (mC (.int 3)))) aNil)))
    (sSeq (sSet 4 (mCall 15 (aCons (mCut false (mVar 1) (pYes (mC (.int 3))) (pYes (mOp (dAdd false) (mC (.int 4)) (mCall 12 (aCons (mVar 2) (aCons (mC (.int 12)) aNil)))))) (aCons (mVar 3) (aCons (mC (.int 12)) aNil)))))
    (sSeq (sSet 5 (mOp (dMul false) (mLst false (aCons (mTup (aCons (mC (.str [110, 111, 116])) aNil)) aNil)) (mOp dIx (mLst false (aCons (mC (.int 0)) (aCons (mC (.int 0)) (aCons (mC (.int 0)) (aCons (mCall 12 (aCons (mVar 2) (aCons (mC (.int 170)) aNil))) aNil))))) (mCall 12 (aCons (mVar 2) (aCons (mC (.int 4)) aNil))))))
    (sSeq (sIf (tCmp (mOp (dEq false) (mCall 12 (aCons (mVar 2) (aCons (mC (.int 2)) aNil))) (mC (.int 0)))) (sSet 4 (mOp (dAdd false) (mVar 4) (mVar 5))) (sSet 4 (mOp (dAdd false) (mOp (dAdd false) (mCut false (mVar 4) pNo (pYes (mC (.int 1)))) (mVar 5)) (mCut false (mVar 4) (pYes (mC (.int 1))) pNo))))
    (sSeq (sSet 6 (mCall 20 (aCons (mVar 4) aNil)))
    (sSeq (sSet 7 (mCall 3 (aCons (mCall 16 (aCons (mVar 4) aNil)) aNil)))
    (sSeq (sSet 8 (mCall 21 (aCons (mLst false (aCons (mVar 6) aNil)) aNil)))
    (sSeq (sIf (tOr (tNot (tVal (mCall 23 (aCons (mVar 7) (aCons (mVar 6) aNil))))) (tNot (tVal (mCall 23 (aCons (mCall 6 (aCons (mVar 7) aNil)) (aCons (mB gTuple (aCons (mVar 8) aNil)) aNil)))))) (sRet (mC (.bl false))) sNil)
    (sSeq (sFor (iRng1 (mC (.int 4))) (.nm 9) lkBody)
    (sRet (mCall 27 (aCons (mVar 2) (aCons (mCut false (mVar 1) (pYes (mC (.int 20))) pNo) (aCons (mVar 3) aNil))))))))))))))) := rfl
  rw [hb, sSeq_ev, m1, seq_nx, sSeq_ev, m2, seq_nx, sSeq_ev, m3, seq_nx, sSeq_ev, m4, seq_nx, sSeq_ev, m5, seq_nx, sSeq_ev, m6, seq_nx, sSeq_ev, m7, seq_nx, sSeq_ev, m8, seq_nx, sSeq_ev, m9, seq_nx, sSeq_ev, m10, seq_nx, sSeq_ev, e7, seq_nx, m13, fin_rt]
  exact fin1_app (h := []) (lo_bl 0 true)
end K24

namespace K24
open PySem PySem.Spec PyProof.Rows L2 PySem.Calls Ev
open PySem.W (Frag)
section
variable {P : Program} {w : World} {K : Frag} {mg : Str → Option Value} {base : Heap} {CL : List XC}
theorem row_top_of (G : Good P w K mg CL) {f : Addr} {fd : FuncData} (Fn : Fun K "top_of" "top_of" (top 3) f fd) (hm : mg "top_of" = some (.ref f)) (hb : Binds K fd [("field" : Str)] []) : RowOk P w K mg base CL tab 23 (("top_of" : Str), [("field" : Str)], ⟨1, 1, b_top_of⟩) :=
  ⟨f, fd, top 3, N_top_of, Fn, hm, hb, ⟨rfl, rfl, rfl, by decide +kernel, rfl, by decide +kernel, by decide +kernel⟩, rfl, rfl, fun c k hk ok cdv A outer s H E hr => d_top_of G hk ok hr⟩
theorem row_at_least (G : Good P w K mg CL) {f : Addr} {fd : FuncData} (Fn : Fun K "at_least" "at_least" (top 4) f fd) (hm : mg "at_least" = some (.ref f)) (hb : Binds K fd [("field" : Str), ("bound" : Str)] []) : RowOk P w K mg base CL tab 23 (("at_least" : Str), [("field" : Str), ("bound" : Str)], ⟨2, 2, b_at_least⟩) :=
  ⟨f, fd, top 4, N_at_least, Fn, hm, hb, ⟨rfl, rfl, rfl, by decide +kernel, rfl, by decide +kernel, by decide +kernel⟩, rfl, rfl, fun c k hk ok cdv A outer s H E hr => d_at_least G hk ok hr⟩
theorem row_core_number (G : Good P w K mg CL) {f : Addr} {fd : FuncData} (Fn : Fun K "core_number" "core_number" (top 5) f fd) (hm : mg "core_number" = some (.ref f)) (hb : Binds K fd [("query" : Str)] []) : RowOk P w K mg base CL tab 23 (("core_number" : Str), [("query" : Str)], ⟨1, 6, b_core_number⟩) :=
  ⟨f, fd, top 5, N_core_number, Fn, hm, hb, ⟨rfl, rfl, rfl, by decide +kernel, rfl, by decide +kernel, by decide +kernel⟩, rfl, rfl, fun c k hk ok cdv A outer s H E hr => d_core_number G hk ok hr⟩
theorem row_core_form (G : Good P w K mg CL) {f : Addr} {fd : FuncData} (Fn : Fun K "core_form" "core_form" (top 6) f fd) (hm : mg "core_form" = some (.ref f)) (hb : Binds K fd [("query" : Str)] []) : RowOk P w K mg base CL tab 23 (("core_form" : Str), [("query" : Str)], ⟨1, 2, b_core_form⟩) :=
  ⟨f, fd, top 6, N_core_form, Fn, hm, hb, ⟨rfl, rfl, rfl, by decide +kernel, rfl, by decide +kernel, by decide +kernel⟩, rfl, rfl, fun c k hk ok cdv A outer s H E hr => d_core_form G hk ok hr⟩
theorem row_test_list (G : Good P w K mg CL) {f : Addr} {fd : FuncData} (Fn : Fun K "test_list" "test_list" (top 7) f fd) (hm : mg "test_list" = some (.ref f)) (hb : Binds K fd [("core" : Str)] []) : RowOk P w K mg base CL tab 23 (("test_list" : Str), [("core" : Str)], ⟨1, 4, b_test_list⟩) :=
  ⟨f, fd, top 7, N_test_list, Fn, hm, hb, ⟨rfl, rfl, rfl, by decide +kernel, rfl, by decide +kernel, by decide +kernel⟩, rfl, rfl, fun c k hk ok cdv A outer s H E hr => d_test_list G hk ok hr⟩
theorem row_without_repeats (G : Good P w K mg CL) {f : Addr} {fd : FuncData} (Fn : Fun K "without_repeats" "without_repeats" (top 8) f fd) (hm : mg "without_repeats" = some (.ref f)) (hb : Binds K fd [("values" : Str)] []) : RowOk P w K mg base CL tab 23 (("without_repeats" : Str), [("values" : Str)], ⟨1, 3, b_without_repeats⟩) :=
  ⟨f, fd, top 8, N_without_repeats, Fn, hm, hb, ⟨rfl, rfl, rfl, by decide +kernel, rfl, by decide +kernel, by decide +kernel⟩, rfl, rfl, fun c k hk ok cdv A outer s H E hr => d_without_repeats G hk ok hr⟩
theorem row_tests_of (G : Good P w K mg CL) {f : Addr} {fd : FuncData} (Fn : Fun K "tests_of" "tests_of" (top 9) f fd) (hm : mg "tests_of" = some (.ref f)) (hb : Binds K fd [("core" : Str)] []) : RowOk P w K mg base CL tab 23 (("tests_of" : Str), [("core" : Str)], ⟨1, 1, b_tests_of⟩) :=
  ⟨f, fd, top 9, N_tests_of, Fn, hm, hb, ⟨rfl, rfl, rfl, by decide +kernel, rfl, by decide +kernel, by decide +kernel⟩, rfl, rfl, fun c k hk ok cdv A outer s H E hr => d_tests_of G hk ok hr⟩
theorem row_indexed (G : Good P w K mg CL) {f : Addr} {fd : FuncData} (Fn : Fun K "indexed" "indexed" (top 10) f fd) (hm : mg "indexed" = some (.ref f)) (hb : Binds K fd [("core" : Str), ("tests" : Str)] []) : RowOk P w K mg base CL tab 23 (("indexed" : Str), [("core" : Str), ("tests" : Str)], ⟨2, 3, b_indexed⟩) :=
  ⟨f, fd, top 10, N_indexed, Fn, hm, hb, ⟨rfl, rfl, rfl, by decide +kernel, rfl, by decide +kernel, by decide +kernel⟩, rfl, rfl, fun c k hk ok cdv A outer s H E hr => d_indexed G hk ok hr⟩
theorem row_indexed_value (G : Good P w K mg CL) {f : Addr} {fd : FuncData} (Fn : Fun K "indexed_value" "indexed_value" (top 11) f fd) (hm : mg "indexed_value" = some (.ref f)) (hb : Binds K fd [("form" : Str), ("known" : Str)] []) : RowOk P w K mg base CL tab 23 (("indexed_value" : Str), [("form" : Str), ("known" : Str)], ⟨2, 7, b_indexed_value⟩) :=
  ⟨f, fd, top 11, N_indexed_value, Fn, hm, hb, ⟨rfl, rfl, rfl, by decide +kernel, rfl, by decide +kernel, by decide +kernel⟩, rfl, rfl, fun c k hk ok cdv A outer s H E hr => d_indexed_value G hk ok hr⟩
theorem row_value_under (G : Good P w K mg CL) {f : Addr} {fd : FuncData} (Fn : Fun K "value_under" "value_under" (top 12) f fd) (hm : mg "value_under" = some (.ref f)) (hb : Binds K fd [("core" : Str), ("known" : Str)] []) : RowOk P w K mg base CL tab 23 (("value_under" : Str), [("core" : Str), ("known" : Str)], ⟨2, 6, b_value_under⟩) :=
  ⟨f, fd, top 12, N_value_under, Fn, hm, hb, ⟨rfl, rfl, rfl, by decide +kernel, rfl, by decide +kernel, by decide +kernel⟩, rfl, rfl, fun c k hk ok cdv A outer s H E hr => d_value_under G hk ok hr⟩
theorem row__law_deck (G : Good P w K mg CL) {f : Addr} {fd : FuncData} (Fn : Fun K "_law_deck" "_law_deck" (top 14) f fd) (hm : mg "_law_deck" = some (.ref f)) (hb : Binds K fd [("cell" : Str)] []) : RowOk P w K mg base CL tab 23 (("_law_deck" : Str), [("cell" : Str)], ⟨1, 1, b__law_deck⟩) :=
  ⟨f, fd, top 14, N__law_deck, Fn, hm, hb, ⟨rfl, rfl, rfl, by decide +kernel, rfl, by decide +kernel, by decide +kernel⟩, rfl, rfl, fun c k hk ok cdv A outer s H E hr => d__law_deck G hk ok hr⟩
theorem row__law_decks (G : Good P w K mg CL) {f : Addr} {fd : FuncData} (Fn : Fun K "_law_decks" "_law_decks" (top 15) f fd) (hm : mg "_law_decks" = some (.ref f)) (hb : Binds K fd [("script" : Str)] []) : RowOk P w K mg base CL tab 23 (("_law_decks" : Str), [("script" : Str)], ⟨1, 6, b__law_decks⟩) :=
  ⟨f, fd, top 15, N__law_decks, Fn, hm, hb, ⟨rfl, rfl, rfl, by decide +kernel, rfl, by decide +kernel, by decide +kernel⟩, rfl, rfl, fun c k hk ok cdv A outer s H E hr => d__law_decks G hk ok hr⟩
theorem row__law_draw (G : Good P w K mg CL) {f : Addr} {fd : FuncData} (Fn : Fun K "_law_draw" "_law_draw" (top 16) f fd) (hm : mg "_law_draw" = some (.ref f)) (hb : Binds K fd [("deck" : Str), ("many" : Str)] []) : RowOk P w K mg base CL tab 23 (("_law_draw" : Str), [("deck" : Str), ("many" : Str)], ⟨2, 3, b__law_draw⟩) :=
  ⟨f, fd, top 16, N__law_draw, Fn, hm, hb, ⟨rfl, rfl, rfl, by decide +kernel, rfl, by decide +kernel, by decide +kernel⟩, rfl, rfl, fun c k hk ok cdv A outer s H E hr => d__law_draw G hk ok hr⟩
theorem row__law_names (G : Good P w K mg CL) {f : Addr} {fd : FuncData} (Fn : Fun K "_law_names" "_law_names" (top 17) f fd) (hm : mg "_law_names" = some (.ref f)) (hb : Binds K fd [("decks" : Str)] []) : RowOk P w K mg base CL tab 23 (("_law_names" : Str), [("decks" : Str)], ⟨1, 9, b__law_names⟩) :=
  ⟨f, fd, top 17, N__law_names, Fn, hm, hb, ⟨rfl, rfl, rfl, by decide +kernel, rfl, by decide +kernel, by decide +kernel⟩, rfl, rfl, fun c k hk ok cdv A outer s H E hr => d__law_names G hk ok hr⟩
theorem row__law_leaf (G : Good P w K mg CL) {f : Addr} {fd : FuncData} (Fn : Fun K "_law_leaf" "_law_leaf" (top 18) f fd) (hm : mg "_law_leaf" = some (.ref f)) (hb : Binds K fd [("deck" : Str), ("names" : Str)] []) : RowOk P w K mg base CL tab 23 (("_law_leaf" : Str), [("deck" : Str), ("names" : Str)], ⟨2, 6, b__law_leaf⟩) :=
  ⟨f, fd, top 18, N__law_leaf, Fn, hm, hb, ⟨rfl, rfl, rfl, by decide +kernel, rfl, by decide +kernel, by decide +kernel⟩, rfl, rfl, fun c k hk ok cdv A outer s H E hr => d__law_leaf G hk ok hr⟩
theorem row__law_code (G : Good P w K mg CL) {f : Addr} {fd : FuncData} (Fn : Fun K "_law_code" "_law_code" (top 19) f fd) (hm : mg "_law_code" = some (.ref f)) (hb : Binds K fd [("decks" : Str), ("names" : Str), ("most" : Str)] []) : RowOk P w K mg base CL tab 23 (("_law_code" : Str), [("decks" : Str), ("names" : Str), ("most" : Str)], ⟨3, 10, b__law_code⟩) :=
  ⟨f, fd, top 19, N__law_code, Fn, hm, hb, ⟨rfl, rfl, rfl, by decide +kernel, rfl, by decide +kernel, by decide +kernel⟩, rfl, rfl, fun c k hk ok cdv A outer s H E hr => d__law_code G hk ok hr⟩
theorem row__law_tree (G : Good P w K mg CL) {f : Addr} {fd : FuncData} (Fn : Fun K "_law_tree" "_law_tree" (top 20) f fd) (hm : mg "_law_tree" = some (.ref f)) (hb : Binds K fd [("code" : Str)] []) : RowOk P w K mg base CL tab 23 (("_law_tree" : Str), [("code" : Str)], ⟨1, 6, b__law_tree⟩) :=
  ⟨f, fd, top 20, N__law_tree, Fn, hm, hb, ⟨rfl, rfl, rfl, by decide +kernel, rfl, by decide +kernel, by decide +kernel⟩, rfl, rfl, fun c k hk ok cdv A outer s H E hr => d__law_tree G hk ok hr⟩
theorem row__law_test (G : Good P w K mg CL) {f : Addr} {fd : FuncData} (Fn : Fun K "_law_test" "_law_test" (top 21) f fd) (hm : mg "_law_test" = some (.ref f)) (hb : Binds K fd [("token" : Str), ("row" : Str)] []) : RowOk P w K mg base CL tab 23 (("_law_test" : Str), [("token" : Str), ("row" : Str)], ⟨2, 4, b__law_test⟩) :=
  ⟨f, fd, top 21, N__law_test, Fn, hm, hb, ⟨rfl, rfl, rfl, by decide +kernel, rfl, by decide +kernel, by decide +kernel⟩, rfl, rfl, fun c k hk ok cdv A outer s H E hr => d__law_test G hk ok hr⟩
theorem row__law_truths (G : Good P w K mg CL) {f : Addr} {fd : FuncData} (Fn : Fun K "_law_truths" "_law_truths" (top 22) f fd) (hm : mg "_law_truths" = some (.ref f)) (hb : Binds K fd [("code" : Str), ("rows" : Str), ("links" : Str)] []) : RowOk P w K mg base CL tab 23 (("_law_truths" : Str), [("code" : Str), ("rows" : Str), ("links" : Str)], ⟨3, 15, b__law_truths⟩) :=
  ⟨f, fd, top 22, N__law_truths, Fn, hm, hb, ⟨rfl, rfl, rfl, by decide +kernel, rfl, by decide +kernel, by decide +kernel⟩, rfl, rfl, fun c k hk ok cdv A outer s H E hr => d__law_truths G hk ok hr⟩
theorem row__law_least (G : Good P w K mg CL) {f : Addr} {fd : FuncData} (Fn : Fun K "_law_least" "_law_least" (top 23) f fd) (hm : mg "_law_least" = some (.ref f)) (hb : Binds K fd [("field" : Str), ("bound" : Str)] []) : RowOk P w K mg base CL tab 23 (("_law_least" : Str), [("field" : Str), ("bound" : Str)], ⟨2, 2, b__law_least⟩) :=
  ⟨f, fd, top 23, N__law_least, Fn, hm, hb, ⟨rfl, rfl, rfl, by decide +kernel, rfl, by decide +kernel, by decide +kernel⟩, rfl, rfl, fun c k hk ok cdv A outer s H E hr => d__law_least G hk ok hr⟩
theorem row__law_core (G : Good P w K mg CL) {f : Addr} {fd : FuncData} (Fn : Fun K "_law_core" "_law_core" (top 24) f fd) (hm : mg "_law_core" = some (.ref f)) (hb : Binds K fd [("code" : Str)] []) : RowOk P w K mg base CL tab 23 (("_law_core" : Str), [("code" : Str)], ⟨1, 10, b__law_core⟩) :=
  ⟨f, fd, top 24, N__law_core, Fn, hm, hb, ⟨rfl, rfl, rfl, by decide +kernel, rfl, by decide +kernel, by decide +kernel⟩, rfl, rfl, fun c k hk ok cdv A outer s H E hr => d__law_core G hk ok hr⟩
theorem row__law_tests (G : Good P w K mg CL) {f : Addr} {fd : FuncData} (Fn : Fun K "_law_tests" "_law_tests" (top 25) f fd) (hm : mg "_law_tests" = some (.ref f)) (hb : Binds K fd [("demands" : Str)] []) : RowOk P w K mg base CL tab 23 (("_law_tests" : Str), [("demands" : Str)], ⟨1, 5, b__law_tests⟩) :=
  ⟨f, fd, top 25, N__law_tests, Fn, hm, hb, ⟨rfl, rfl, rfl, by decide +kernel, rfl, by decide +kernel, by decide +kernel⟩, rfl, rfl, fun c k hk ok cdv A outer s H E hr => d__law_tests G hk ok hr⟩
theorem row__law_value (G : Good P w K mg CL) {f : Addr} {fd : FuncData} (Fn : Fun K "_law_value" "_law_value" (top 26) f fd) (hm : mg "_law_value" = some (.ref f)) (hb : Binds K fd [("core" : Str), ("known" : Str)] []) : RowOk P w K mg base CL tab 23 (("_law_value" : Str), [("core" : Str), ("known" : Str)], ⟨2, 11, b__law_value⟩) :=
  ⟨f, fd, top 26, N__law_value, Fn, hm, hb, ⟨rfl, rfl, rfl, by decide +kernel, rfl, by decide +kernel, by decide +kernel⟩, rfl, rfl, fun c k hk ok cdv A outer s H E hr => d__law_value G hk ok hr⟩
theorem row__law_is_same (G : Good P w K mg CL) {f : Addr} {fd : FuncData} (Fn : Fun K "_law_is_same" "_law_is_same" (top 27) f fd) (hm : mg "_law_is_same" = some (.ref f)) (hb : Binds K fd [("told" : Str), ("due" : Str)] []) : RowOk P w K mg base CL tab 23 (("_law_is_same" : Str), [("told" : Str), ("due" : Str)], ⟨2, 6, b__law_is_same⟩) :=
  ⟨f, fd, top 27, N__law_is_same, Fn, hm, hb, ⟨rfl, rfl, rfl, by decide +kernel, rfl, by decide +kernel, by decide +kernel⟩, rfl, rfl, fun c k hk ok cdv A outer s H E hr => d__law_is_same G hk ok hr⟩
theorem row__law_known (G : Good P w K mg CL) {f : Addr} {fd : FuncData} (Fn : Fun K "_law_known" "_law_known" (top 28) f fd) (hm : mg "_law_known" = some (.ref f)) (hb : Binds K fd [("tests" : Str), ("deck" : Str)] []) : RowOk P w K mg base CL tab 23 (("_law_known" : Str), [("tests" : Str), ("deck" : Str)], ⟨2, 6, b__law_known⟩) :=
  ⟨f, fd, top 28, N__law_known, Fn, hm, hb, ⟨rfl, rfl, rfl, by decide +kernel, rfl, by decide +kernel, by decide +kernel⟩, rfl, rfl, fun c k hk ok cdv A outer s H E hr => d__law_known G hk ok hr⟩
theorem row__law_is_value (G : Good P w K mg CL) {f : Addr} {fd : FuncData} (Fn : Fun K "_law_is_value" "_law_is_value" (top 29) f fd) (hm : mg "_law_is_value" = some (.ref f)) (hb : Binds K fd [("told" : Str), ("due" : Str)] []) : RowOk P w K mg base CL tab 23 (("_law_is_value" : Str), [("told" : Str), ("due" : Str)], ⟨2, 2, b__law_is_value⟩) :=
  ⟨f, fd, top 29, N__law_is_value, Fn, hm, hb, ⟨rfl, rfl, rfl, by decide +kernel, rfl, by decide +kernel, by decide +kernel⟩, rfl, rfl, fun c k hk ok cdv A outer s H E hr => d__law_is_value G hk ok hr⟩
theorem row__law_on_card (G : Good P w K mg CL) {f : Addr} {fd : FuncData} (Fn : Fun K "_law_on_card" "_law_on_card" (top 30) f fd) (hm : mg "_law_on_card" = some (.ref f)) (hb : Binds K fd [("test" : Str), ("row" : Str)] []) : RowOk P w K mg base CL tab 23 (("_law_on_card" : Str), [("test" : Str), ("row" : Str)], ⟨2, 2, b__law_on_card⟩) :=
  ⟨f, fd, top 30, N__law_on_card, Fn, hm, hb, ⟨rfl, rfl, rfl, by decide +kernel, rfl, by decide +kernel, by decide +kernel⟩, rfl, rfl, fun c k hk ok cdv A outer s H E hr => d__law_on_card G hk ok hr⟩
theorem row__law_card_side (G : Good P w K mg CL) {f : Addr} {fd : FuncData} (Fn : Fun K "_law_card_side" "_law_card_side" (top 31) f fd) (hm : mg "_law_card_side" = some (.ref f)) (hb : Binds K fd [("deck" : Str), ("decks" : Str), ("names" : Str)] []) : RowOk P w K mg base CL tab 23 (("_law_card_side" : Str), [("deck" : Str), ("decks" : Str), ("names" : Str)], ⟨3, 14, b__law_card_side⟩) :=
  ⟨f, fd, top 31, N__law_card_side, Fn, hm, hb, ⟨rfl, rfl, rfl, by decide +kernel, rfl, by decide +kernel, by decide +kernel⟩, rfl, rfl, fun c k hk ok cdv A outer s H E hr => d__law_card_side G hk ok hr⟩
theorem row_law (G : Good P w K mg CL) {f : Addr} {fd : FuncData} (Fn : Fun K "law" "law" (top 32) f fd) (hm : mg "law" = some (.ref f)) (hb : Binds K fd [("script" : Str)] []) : RowOk P w K mg base CL tab 23 (("law" : Str), [("script" : Str)], ⟨1, 11, b_law⟩) :=
  ⟨f, fd, top 32, N_law, Fn, hm, hb, ⟨rfl, rfl, rfl, by decide +kernel, rfl, by decide +kernel, by decide +kernel⟩, rfl, rfl, fun c k hk ok cdv A outer s H E hr => d_law G hk ok hr⟩
end
/-- the law's promise -/
def spLaw (K : Frag) : Sp := fun vs H Q _ => ∃ (a : Addr) (ns : List Int), vs = [.ref a] ∧ ns.length ≤ 63 ∧ SqL K H a (ns.map V.int) ∧ ∀ H', Q (.bl true) H'
theorem rep_ints {K : Frag} {H : Hp} {r : Rho} : ∀ ns : List Int, RepA K H r (ns.map V.int) (ns.map D.int)
  | [] => .nil
  | n :: ns => .cons (.int n) (rep_ints ns)
theorem law_sp {K : Frag} {CL : List XC} {g : List D → Hd → Res D} (h : ∀ ns : List Int, ns.length ≤ 63 → ∃ h', g [.scr (ns.map D.int)] [] = .ok (.bl true) h') : ∀ vs H Q E, spLaw K vs H Q E → spC K CL g 1 vs H Q E := by
  rintro vs H Q E ⟨a, ns, rfl, hl, hS, q⟩
  obtain ⟨h', e⟩ := h ns hl
  have R0 : R K Rho.nil [] H := ⟨rfl, fun i j a e => by simp at e, fun i a e => by simp at e, fun i e => by simp at e, fun a m => by simp at m⟩
  have fz : FzS K H Rho.nil a (ns.map V.int) := by
    rcases hS with hS | hS
    · exact .inl ⟨hS, fun m => by rcases m with m | m <;> simp at m⟩
    · exact .inr (.inr hS)
  refine ⟨rfl, Rho.nil, [.scr (ns.map D.int)], [], R0, .cons (.scr fz (rep_ints ns)) .nil, ?_⟩
  rw [e]
  intro v r' H' _ _ rv
  cases rv
  exact q H'

theorem all_mk {w : World} {K : Frag} {h : Heap} {mg : Str → Option Value} {fa : Addr} (X : K.In h) (G : h.Ns mainGlobals mg) (hfa : mg "law" = some (.ref fa))
    {f0 f1 f2 f3 f4 f5 f6 f7 f8 f9 f10 f11 f12 f13 f14 f15 f16 f17 f18 f19 f20 f21 f22 f23 f24 f25 f26 f27 f28 : Addr}
    {t1 t2 : Tok}
    {oc0 kV0 dc0 pm0 cd0 ct0 : Value} {od0 an0 : Option Addr} {sl0 : Array (Option Value)}
    {oc1 kV1 dc1 pm1 cd1 ct1 : Value} {od1 an1 : Option Addr} {sl1 : Array (Option Value)}
    {oc2 kV2 dc2 pm2 cd2 ct2 : Value} {od2 an2 : Option Addr} {sl2 : Array (Option Value)}
    {oc3 kV3 dc3 pm3 cd3 ct3 : Value} {od3 an3 : Option Addr} {sl3 : Array (Option Value)}
    {oc4 kV4 dc4 pm4 cd4 ct4 : Value} {od4 an4 : Option Addr} {sl4 : Array (Option Value)}
    {oc5 kV5 dc5 pm5 cd5 ct5 : Value} {od5 an5 : Option Addr} {sl5 : Array (Option Value)}
    {oc6 kV6 dc6 pm6 cd6 ct6 : Value} {od6 an6 : Option Addr} {sl6 : Array (Option Value)}
    {oc7 kV7 dc7 pm7 cd7 ct7 : Value} {od7 an7 : Option Addr} {sl7 : Array (Option Value)}
    {oc8 kV8 dc8 pm8 cd8 ct8 : Value} {od8 an8 : Option Addr} {sl8 : Array (Option Value)}
    {oc9 kV9 dc9 pm9 cd9 ct9 : Value} {od9 an9 : Option Addr} {sl9 : Array (Option Value)}
    {oc10 kV10 dc10 pm10 cd10 ct10 : Value} {od10 an10 : Option Addr} {sl10 : Array (Option Value)}
    {oc11 kV11 dc11 pm11 cd11 ct11 : Value} {od11 an11 : Option Addr} {sl11 : Array (Option Value)}
    {oc12 kV12 dc12 pm12 cd12 ct12 : Value} {od12 an12 : Option Addr} {sl12 : Array (Option Value)}
    {oc13 kV13 dc13 pm13 cd13 ct13 : Value} {od13 an13 : Option Addr} {sl13 : Array (Option Value)}
    {oc14 kV14 dc14 pm14 cd14 ct14 : Value} {od14 an14 : Option Addr} {sl14 : Array (Option Value)}
    {oc15 kV15 dc15 pm15 cd15 ct15 : Value} {od15 an15 : Option Addr} {sl15 : Array (Option Value)}
    {oc16 kV16 dc16 pm16 cd16 ct16 : Value} {od16 an16 : Option Addr} {sl16 : Array (Option Value)}
    {oc17 kV17 dc17 pm17 cd17 ct17 : Value} {od17 an17 : Option Addr} {sl17 : Array (Option Value)}
    {oc18 kV18 dc18 pm18 cd18 ct18 : Value} {od18 an18 : Option Addr} {sl18 : Array (Option Value)}
    {oc19 kV19 dc19 pm19 cd19 ct19 : Value} {od19 an19 : Option Addr} {sl19 : Array (Option Value)}
    {oc20 kV20 dc20 pm20 cd20 ct20 : Value} {od20 an20 : Option Addr} {sl20 : Array (Option Value)}
    {oc21 kV21 dc21 pm21 cd21 ct21 : Value} {od21 an21 : Option Addr} {sl21 : Array (Option Value)}
    {oc22 kV22 dc22 pm22 cd22 ct22 : Value} {od22 an22 : Option Addr} {sl22 : Array (Option Value)}
    {oc23 kV23 dc23 pm23 cd23 ct23 : Value} {od23 an23 : Option Addr} {sl23 : Array (Option Value)}
    {oc24 kV24 dc24 pm24 cd24 ct24 : Value} {od24 an24 : Option Addr} {sl24 : Array (Option Value)}
    {oc25 kV25 dc25 pm25 cd25 ct25 : Value} {od25 an25 : Option Addr} {sl25 : Array (Option Value)}
    {oc26 kV26 dc26 pm26 cd26 ct26 : Value} {od26 an26 : Option Addr} {sl26 : Array (Option Value)}
    {oc27 kV27 dc27 pm27 cd27 ct27 : Value} {od27 an27 : Option Addr} {sl27 : Array (Option Value)}
    {oc28 kV28 dc28 pm28 cd28 ct28 : Value} {od28 an28 : Option Addr} {sl28 : Array (Option Value)}
    (a0 : PySem.W.nsIn K mainGlobals "top_of" = some (some (.ref f0)))
    (l0 : K.lookup f0 = some ⟨oc0, od0, .func (PySem.W.fnOf "top_of" "top_of" (defArgs (top 3)) (defBody (top 3)) (defScope (top 3)) .none kV0 dc0 pm0 an0 cd0 ct0), sl0⟩)
    (c0 : PySem.W.codeIn K cd0 "top_of" = true)
    (k0 : PySem.W.keepIn K (.ref f0) = true)
    (a1 : PySem.W.nsIn K mainGlobals "at_least" = some (some (.ref f1)))
    (l1 : K.lookup f1 = some ⟨oc1, od1, .func (PySem.W.fnOf "at_least" "at_least" (defArgs (top 4)) (defBody (top 4)) (defScope (top 4)) .none kV1 dc1 pm1 an1 cd1 ct1), sl1⟩)
    (c1 : PySem.W.codeIn K cd1 "at_least" = true)
    (k1 : PySem.W.keepIn K (.ref f1) = true)
    (a2 : PySem.W.nsIn K mainGlobals "core_number" = some (some (.ref f2)))
    (l2 : K.lookup f2 = some ⟨oc2, od2, .func (PySem.W.fnOf "core_number" "core_number" (defArgs (top 5)) (defBody (top 5)) (defScope (top 5)) .none kV2 dc2 pm2 an2 cd2 ct2), sl2⟩)
    (c2 : PySem.W.codeIn K cd2 "core_number" = true)
    (k2 : PySem.W.keepIn K (.ref f2) = true)
    (a3 : PySem.W.nsIn K mainGlobals "core_form" = some (some (.ref f3)))
    (l3 : K.lookup f3 = some ⟨oc3, od3, .func (PySem.W.fnOf "core_form" "core_form" (defArgs (top 6)) (defBody (top 6)) (defScope (top 6)) .none kV3 dc3 pm3 an3 cd3 ct3), sl3⟩)
    (c3 : PySem.W.codeIn K cd3 "core_form" = true)
    (k3 : PySem.W.keepIn K (.ref f3) = true)
    (a4 : PySem.W.nsIn K mainGlobals "test_list" = some (some (.ref f4)))
    (l4 : K.lookup f4 = some ⟨oc4, od4, .func (PySem.W.fnOf "test_list" "test_list" (defArgs (top 7)) (defBody (top 7)) (defScope (top 7)) .none kV4 dc4 pm4 an4 cd4 ct4), sl4⟩)
    (c4 : PySem.W.codeIn K cd4 "test_list" = true)
    (k4 : PySem.W.keepIn K (.ref f4) = true)
    (a5 : PySem.W.nsIn K mainGlobals "without_repeats" = some (some (.ref f5)))
    (l5 : K.lookup f5 = some ⟨oc5, od5, .func (PySem.W.fnOf "without_repeats" "without_repeats" (defArgs (top 8)) (defBody (top 8)) (defScope (top 8)) .none kV5 dc5 pm5 an5 cd5 ct5), sl5⟩)
    (c5 : PySem.W.codeIn K cd5 "without_repeats" = true)
    (k5 : PySem.W.keepIn K (.ref f5) = true)
    (a6 : PySem.W.nsIn K mainGlobals "tests_of" = some (some (.ref f6)))
    (l6 : K.lookup f6 = some ⟨oc6, od6, .func (PySem.W.fnOf "tests_of" "tests_of" (defArgs (top 9)) (defBody (top 9)) (defScope (top 9)) .none kV6 dc6 pm6 an6 cd6 ct6), sl6⟩)
    (c6 : PySem.W.codeIn K cd6 "tests_of" = true)
    (k6 : PySem.W.keepIn K (.ref f6) = true)
    (a7 : PySem.W.nsIn K mainGlobals "indexed" = some (some (.ref f7)))
    (l7 : K.lookup f7 = some ⟨oc7, od7, .func (PySem.W.fnOf "indexed" "indexed" (defArgs (top 10)) (defBody (top 10)) (defScope (top 10)) .none kV7 dc7 pm7 an7 cd7 ct7), sl7⟩)
    (c7 : PySem.W.codeIn K cd7 "indexed" = true)
    (k7 : PySem.W.keepIn K (.ref f7) = true)
    (a8 : PySem.W.nsIn K mainGlobals "indexed_value" = some (some (.ref f8)))
    (l8 : K.lookup f8 = some ⟨oc8, od8, .func (PySem.W.fnOf "indexed_value" "indexed_value" (defArgs (top 11)) (defBody (top 11)) (defScope (top 11)) .none kV8 dc8 pm8 an8 cd8 ct8), sl8⟩)
    (c8 : PySem.W.codeIn K cd8 "indexed_value" = true)
    (k8 : PySem.W.keepIn K (.ref f8) = true)
    (a9 : PySem.W.nsIn K mainGlobals "value_under" = some (some (.ref f9)))
    (l9 : K.lookup f9 = some ⟨oc9, od9, .func (PySem.W.fnOf "value_under" "value_under" (defArgs (top 12)) (defBody (top 12)) (defScope (top 12)) .none kV9 dc9 pm9 an9 cd9 ct9), sl9⟩)
    (c9 : PySem.W.codeIn K cd9 "value_under" = true)
    (k9 : PySem.W.keepIn K (.ref f9) = true)
    (a10 : PySem.W.nsIn K mainGlobals "_law_deck" = some (some (.ref f10)))
    (l10 : K.lookup f10 = some ⟨oc10, od10, .func (PySem.W.fnOf "_law_deck" "_law_deck" (defArgs (top 14)) (defBody (top 14)) (defScope (top 14)) .none kV10 dc10 pm10 an10 cd10 ct10), sl10⟩)
    (c10 : PySem.W.codeIn K cd10 "_law_deck" = true)
    (k10 : PySem.W.keepIn K (.ref f10) = true)
    (a11 : PySem.W.nsIn K mainGlobals "_law_decks" = some (some (.ref f11)))
    (l11 : K.lookup f11 = some ⟨oc11, od11, .func (PySem.W.fnOf "_law_decks" "_law_decks" (defArgs (top 15)) (defBody (top 15)) (defScope (top 15)) .none kV11 dc11 pm11 an11 cd11 ct11), sl11⟩)
    (c11 : PySem.W.codeIn K cd11 "_law_decks" = true)
    (k11 : PySem.W.keepIn K (.ref f11) = true)
    (a12 : PySem.W.nsIn K mainGlobals "_law_draw" = some (some (.ref f12)))
    (l12 : K.lookup f12 = some ⟨oc12, od12, .func (PySem.W.fnOf "_law_draw" "_law_draw" (defArgs (top 16)) (defBody (top 16)) (defScope (top 16)) .none kV12 dc12 pm12 an12 cd12 ct12), sl12⟩)
    (c12 : PySem.W.codeIn K cd12 "_law_draw" = true)
    (k12 : PySem.W.keepIn K (.ref f12) = true)
    (a13 : PySem.W.nsIn K mainGlobals "_law_names" = some (some (.ref f13)))
    (l13 : K.lookup f13 = some ⟨oc13, od13, .func (PySem.W.fnOf "_law_names" "_law_names" (defArgs (top 17)) (defBody (top 17)) (defScope (top 17)) .none kV13 dc13 pm13 an13 cd13 ct13), sl13⟩)
    (c13 : PySem.W.codeIn K cd13 "_law_names" = true)
    (k13 : PySem.W.keepIn K (.ref f13) = true)
    (a14 : PySem.W.nsIn K mainGlobals "_law_leaf" = some (some (.ref f14)))
    (l14 : K.lookup f14 = some ⟨oc14, od14, .func (PySem.W.fnOf "_law_leaf" "_law_leaf" (defArgs (top 18)) (defBody (top 18)) (defScope (top 18)) .none kV14 dc14 pm14 an14 cd14 ct14), sl14⟩)
    (c14 : PySem.W.codeIn K cd14 "_law_leaf" = true)
    (k14 : PySem.W.keepIn K (.ref f14) = true)
    (a15 : PySem.W.nsIn K mainGlobals "_law_code" = some (some (.ref f15)))
    (l15 : K.lookup f15 = some ⟨oc15, od15, .func (PySem.W.fnOf "_law_code" "_law_code" (defArgs (top 19)) (defBody (top 19)) (defScope (top 19)) .none kV15 dc15 pm15 an15 cd15 ct15), sl15⟩)
    (c15 : PySem.W.codeIn K cd15 "_law_code" = true)
    (k15 : PySem.W.keepIn K (.ref f15) = true)
    (a16 : PySem.W.nsIn K mainGlobals "_law_tree" = some (some (.ref f16)))
    (l16 : K.lookup f16 = some ⟨oc16, od16, .func (PySem.W.fnOf "_law_tree" "_law_tree" (defArgs (top 20)) (defBody (top 20)) (defScope (top 20)) .none kV16 dc16 pm16 an16 cd16 ct16), sl16⟩)
    (c16 : PySem.W.codeIn K cd16 "_law_tree" = true)
    (k16 : PySem.W.keepIn K (.ref f16) = true)
    (a17 : PySem.W.nsIn K mainGlobals "_law_test" = some (some (.ref f17)))
    (l17 : K.lookup f17 = some ⟨oc17, od17, .func (PySem.W.fnOf "_law_test" "_law_test" (defArgs (top 21)) (defBody (top 21)) (defScope (top 21)) .none kV17 dc17 pm17 an17 cd17 ct17), sl17⟩)
    (c17 : PySem.W.codeIn K cd17 "_law_test" = true)
    (k17 : PySem.W.keepIn K (.ref f17) = true)
    (a18 : PySem.W.nsIn K mainGlobals "_law_truths" = some (some (.ref f18)))
    (l18 : K.lookup f18 = some ⟨oc18, od18, .func (PySem.W.fnOf "_law_truths" "_law_truths" (defArgs (top 22)) (defBody (top 22)) (defScope (top 22)) .none kV18 dc18 pm18 an18 cd18 ct18), sl18⟩)
    (c18 : PySem.W.codeIn K cd18 "_law_truths" = true)
    (k18 : PySem.W.keepIn K (.ref f18) = true)
    (a19 : PySem.W.nsIn K mainGlobals "_law_least" = some (some (.ref f19)))
    (l19 : K.lookup f19 = some ⟨oc19, od19, .func (PySem.W.fnOf "_law_least" "_law_least" (defArgs (top 23)) (defBody (top 23)) (defScope (top 23)) .none kV19 dc19 pm19 an19 cd19 ct19), sl19⟩)
    (c19 : PySem.W.codeIn K cd19 "_law_least" = true)
    (k19 : PySem.W.keepIn K (.ref f19) = true)
    (a20 : PySem.W.nsIn K mainGlobals "_law_core" = some (some (.ref f20)))
    (l20 : K.lookup f20 = some ⟨oc20, od20, .func (PySem.W.fnOf "_law_core" "_law_core" (defArgs (top 24)) (defBody (top 24)) (defScope (top 24)) .none kV20 dc20 pm20 an20 cd20 ct20), sl20⟩)
    (c20 : PySem.W.codeIn K cd20 "_law_core" = true)
    (k20 : PySem.W.keepIn K (.ref f20) = true)
    (a21 : PySem.W.nsIn K mainGlobals "_law_tests" = some (some (.ref f21)))
    (l21 : K.lookup f21 = some ⟨oc21, od21, .func (PySem.W.fnOf "_law_tests" "_law_tests" (defArgs (top 25)) (defBody (top 25)) (defScope (top 25)) .none kV21 dc21 pm21 an21 cd21 ct21), sl21⟩)
    (c21 : PySem.W.codeIn K cd21 "_law_tests" = true)
    (k21 : PySem.W.keepIn K (.ref f21) = true)
    (a22 : PySem.W.nsIn K mainGlobals "_law_value" = some (some (.ref f22)))
    (l22 : K.lookup f22 = some ⟨oc22, od22, .func (PySem.W.fnOf "_law_value" "_law_value" (defArgs (top 26)) (defBody (top 26)) (defScope (top 26)) .none kV22 dc22 pm22 an22 cd22 ct22), sl22⟩)
    (c22 : PySem.W.codeIn K cd22 "_law_value" = true)
    (k22 : PySem.W.keepIn K (.ref f22) = true)
    (a23 : PySem.W.nsIn K mainGlobals "_law_is_same" = some (some (.ref f23)))
    (l23 : K.lookup f23 = some ⟨oc23, od23, .func (PySem.W.fnOf "_law_is_same" "_law_is_same" (defArgs (top 27)) (defBody (top 27)) (defScope (top 27)) .none kV23 dc23 pm23 an23 cd23 ct23), sl23⟩)
    (c23 : PySem.W.codeIn K cd23 "_law_is_same" = true)
    (k23 : PySem.W.keepIn K (.ref f23) = true)
    (a24 : PySem.W.nsIn K mainGlobals "_law_known" = some (some (.ref f24)))
    (l24 : K.lookup f24 = some ⟨oc24, od24, .func (PySem.W.fnOf "_law_known" "_law_known" (defArgs (top 28)) (defBody (top 28)) (defScope (top 28)) .none kV24 dc24 pm24 an24 cd24 ct24), sl24⟩)
    (c24 : PySem.W.codeIn K cd24 "_law_known" = true)
    (k24 : PySem.W.keepIn K (.ref f24) = true)
    (a25 : PySem.W.nsIn K mainGlobals "_law_is_value" = some (some (.ref f25)))
    (l25 : K.lookup f25 = some ⟨oc25, od25, .func (PySem.W.fnOf "_law_is_value" "_law_is_value" (defArgs (top 29)) (defBody (top 29)) (defScope (top 29)) .none kV25 dc25 pm25 an25 cd25 ct25), sl25⟩)
    (c25 : PySem.W.codeIn K cd25 "_law_is_value" = true)
    (k25 : PySem.W.keepIn K (.ref f25) = true)
    (a26 : PySem.W.nsIn K mainGlobals "_law_on_card" = some (some (.ref f26)))
    (l26 : K.lookup f26 = some ⟨oc26, od26, .func (PySem.W.fnOf "_law_on_card" "_law_on_card" (defArgs (top 30)) (defBody (top 30)) (defScope (top 30)) .none kV26 dc26 pm26 an26 cd26 ct26), sl26⟩)
    (c26 : PySem.W.codeIn K cd26 "_law_on_card" = true)
    (k26 : PySem.W.keepIn K (.ref f26) = true)
    (a27 : PySem.W.nsIn K mainGlobals "_law_card_side" = some (some (.ref f27)))
    (l27 : K.lookup f27 = some ⟨oc27, od27, .func (PySem.W.fnOf "_law_card_side" "_law_card_side" (defArgs (top 31)) (defBody (top 31)) (defScope (top 31)) .none kV27 dc27 pm27 an27 cd27 ct27), sl27⟩)
    (c27 : PySem.W.codeIn K cd27 "_law_card_side" = true)
    (k27 : PySem.W.keepIn K (.ref f27) = true)
    (a28 : PySem.W.nsIn K mainGlobals "law" = some (some (.ref f28)))
    (l28 : K.lookup f28 = some ⟨oc28, od28, .func (PySem.W.fnOf "law" "law" (defArgs (top 32)) (defBody (top 32)) (defScope (top 32)) .none kV28 dc28 pm28 an28 cd28 ct28), sl28⟩)
    (c28 : PySem.W.codeIn K cd28 "law" = true)
    (k28 : PySem.W.keepIn K (.ref f28) = true)
    (z_bool : PySem.W.nsIn K mainGlobals "bool" = some none)
    (z_int : PySem.W.nsIn K mainGlobals "int" = some none)
    (z_isinstance : PySem.W.nsIn K mainGlobals "isinstance" = some none)
    (z_len : PySem.W.nsIn K mainGlobals "len" = some none)
    (z_list : PySem.W.nsIn K mainGlobals "list" = some none)
    (z_range : PySem.W.nsIn K mainGlobals "range" = some none)
    (z_reversed : PySem.W.nsIn K mainGlobals "reversed" = some none)
    (z_sorted : PySem.W.nsIn K mainGlobals "sorted" = some none)
    (z_str : PySem.W.nsIn K mainGlobals "str" = some none)
    (z_tuple : PySem.W.nsIn K mainGlobals "tuple" = some none)
    (v_TOP_POINTS : PySem.W.nsIn K mainGlobals "TOP_POINTS" = some (some (.int 20 t1)))
    (v_TOP_PRIORITY : PySem.W.nsIn K mainGlobals "TOP_PRIORITY" = some (some (.int 4 t2)))
    : ∃ fd : FuncData, (∀ (s : Shared) (v : Value), BindsTo s fd ⟨[v], []⟩ [("script", v)]) ∧ ∀ base : Heap, K.In base → base.Ns mainGlobals mg → FnOk prg w K mg base (L2.CX prg w) 231 fa fd ["script"] (spLaw K) := by
  have e := hfa.symm.trans (PySem.W.mg_of X G a28)
  cases e
  have GG : Good prg w K mg [] := {
    n_bool := PySem.W.mg_none_of X G z_bool,
    n_int := PySem.W.mg_none_of X G z_int,
    n_isinstance := PySem.W.mg_none_of X G z_isinstance,
    n_len := PySem.W.mg_none_of X G z_len,
    n_list := PySem.W.mg_none_of X G z_list,
    n_range := PySem.W.mg_none_of X G z_range,
    n_reversed := PySem.W.mg_none_of X G z_reversed,
    n_sorted := PySem.W.mg_none_of X G z_sorted,
    n_str := PySem.W.mg_none_of X G z_str,
    n_tuple := PySem.W.mg_none_of X G z_tuple,
    c_TOP_POINTS := ⟨(V.int 20), _, PySem.W.mg_of X G v_TOP_POINTS, ⟨_, rfl⟩, (.int _)⟩,
    c_TOP_PRIORITY := ⟨(V.int 4), _, PySem.W.mg_of X G v_TOP_PRIORITY, ⟨_, rfl⟩, (.int _)⟩ }
  have F0 := fun_mk (st := top 3) l0 c0 k0
  have b0 := F0.binds (ps := [("field" : Str)]) fun _ _ _ _ _ _ us hl => match us, hl with | [_], _ => rfl
  have F1 := fun_mk (st := top 4) l1 c1 k1
  have b1 := F1.binds (ps := [("field" : Str), ("bound" : Str)]) fun _ _ _ _ _ _ us hl => match us, hl with | [_, _], _ => rfl
  have F2 := fun_mk (st := top 5) l2 c2 k2
  have b2 := F2.binds (ps := [("query" : Str)]) fun _ _ _ _ _ _ us hl => match us, hl with | [_], _ => rfl
  have F3 := fun_mk (st := top 6) l3 c3 k3
  have b3 := F3.binds (ps := [("query" : Str)]) fun _ _ _ _ _ _ us hl => match us, hl with | [_], _ => rfl
  have F4 := fun_mk (st := top 7) l4 c4 k4
  have b4 := F4.binds (ps := [("core" : Str)]) fun _ _ _ _ _ _ us hl => match us, hl with | [_], _ => rfl
  have F5 := fun_mk (st := top 8) l5 c5 k5
  have b5 := F5.binds (ps := [("values" : Str)]) fun _ _ _ _ _ _ us hl => match us, hl with | [_], _ => rfl
  have F6 := fun_mk (st := top 9) l6 c6 k6
  have b6 := F6.binds (ps := [("core" : Str)]) fun _ _ _ _ _ _ us hl => match us, hl with | [_], _ => rfl
  have F7 := fun_mk (st := top 10) l7 c7 k7
  have b7 := F7.binds (ps := [("core" : Str), ("tests" : Str)]) fun _ _ _ _ _ _ us hl => match us, hl with | [_, _], _ => rfl
  have F8 := fun_mk (st := top 11) l8 c8 k8
  have b8 := F8.binds (ps := [("form" : Str), ("known" : Str)]) fun _ _ _ _ _ _ us hl => match us, hl with | [_, _], _ => rfl
  have F9 := fun_mk (st := top 12) l9 c9 k9
  have b9 := F9.binds (ps := [("core" : Str), ("known" : Str)]) fun _ _ _ _ _ _ us hl => match us, hl with | [_, _], _ => rfl
  have F10 := fun_mk (st := top 14) l10 c10 k10
  have b10 := F10.binds (ps := [("cell" : Str)]) fun _ _ _ _ _ _ us hl => match us, hl with | [_], _ => rfl
  have F11 := fun_mk (st := top 15) l11 c11 k11
  have b11 := F11.binds (ps := [("script" : Str)]) fun _ _ _ _ _ _ us hl => match us, hl with | [_], _ => rfl
  have F12 := fun_mk (st := top 16) l12 c12 k12
  have b12 := F12.binds (ps := [("deck" : Str), ("many" : Str)]) fun _ _ _ _ _ _ us hl => match us, hl with | [_, _], _ => rfl
  have F13 := fun_mk (st := top 17) l13 c13 k13
  have b13 := F13.binds (ps := [("decks" : Str)]) fun _ _ _ _ _ _ us hl => match us, hl with | [_], _ => rfl
  have F14 := fun_mk (st := top 18) l14 c14 k14
  have b14 := F14.binds (ps := [("deck" : Str), ("names" : Str)]) fun _ _ _ _ _ _ us hl => match us, hl with | [_, _], _ => rfl
  have F15 := fun_mk (st := top 19) l15 c15 k15
  have b15 := F15.binds (ps := [("decks" : Str), ("names" : Str), ("most" : Str)]) fun _ _ _ _ _ _ us hl => match us, hl with | [_, _, _], _ => rfl
  have F16 := fun_mk (st := top 20) l16 c16 k16
  have b16 := F16.binds (ps := [("code" : Str)]) fun _ _ _ _ _ _ us hl => match us, hl with | [_], _ => rfl
  have F17 := fun_mk (st := top 21) l17 c17 k17
  have b17 := F17.binds (ps := [("token" : Str), ("row" : Str)]) fun _ _ _ _ _ _ us hl => match us, hl with | [_, _], _ => rfl
  have F18 := fun_mk (st := top 22) l18 c18 k18
  have b18 := F18.binds (ps := [("code" : Str), ("rows" : Str), ("links" : Str)]) fun _ _ _ _ _ _ us hl => match us, hl with | [_, _, _], _ => rfl
  have F19 := fun_mk (st := top 23) l19 c19 k19
  have b19 := F19.binds (ps := [("field" : Str), ("bound" : Str)]) fun _ _ _ _ _ _ us hl => match us, hl with | [_, _], _ => rfl
  have F20 := fun_mk (st := top 24) l20 c20 k20
  have b20 := F20.binds (ps := [("code" : Str)]) fun _ _ _ _ _ _ us hl => match us, hl with | [_], _ => rfl
  have F21 := fun_mk (st := top 25) l21 c21 k21
  have b21 := F21.binds (ps := [("demands" : Str)]) fun _ _ _ _ _ _ us hl => match us, hl with | [_], _ => rfl
  have F22 := fun_mk (st := top 26) l22 c22 k22
  have b22 := F22.binds (ps := [("core" : Str), ("known" : Str)]) fun _ _ _ _ _ _ us hl => match us, hl with | [_, _], _ => rfl
  have F23 := fun_mk (st := top 27) l23 c23 k23
  have b23 := F23.binds (ps := [("told" : Str), ("due" : Str)]) fun _ _ _ _ _ _ us hl => match us, hl with | [_, _], _ => rfl
  have F24 := fun_mk (st := top 28) l24 c24 k24
  have b24 := F24.binds (ps := [("tests" : Str), ("deck" : Str)]) fun _ _ _ _ _ _ us hl => match us, hl with | [_, _], _ => rfl
  have F25 := fun_mk (st := top 29) l25 c25 k25
  have b25 := F25.binds (ps := [("told" : Str), ("due" : Str)]) fun _ _ _ _ _ _ us hl => match us, hl with | [_, _], _ => rfl
  have F26 := fun_mk (st := top 30) l26 c26 k26
  have b26 := F26.binds (ps := [("test" : Str), ("row" : Str)]) fun _ _ _ _ _ _ us hl => match us, hl with | [_, _], _ => rfl
  have F27 := fun_mk (st := top 31) l27 c27 k27
  have b27 := F27.binds (ps := [("deck" : Str), ("decks" : Str), ("names" : Str)]) fun _ _ _ _ _ _ us hl => match us, hl with | [_, _, _], _ => rfl
  have F28 := fun_mk (st := top 32) l28 c28 k28
  have b28 := F28.binds (ps := [("script" : Str)]) fun _ _ _ _ _ _ us hl => match us, hl with | [_], _ => rfl
  refine ⟨PySem.W.fnOf "law" "law" (defArgs (top 32)) (defBody (top 32)) (defScope (top 32)) .none kV28 dc28 pm28 an28 cd28 ct28, fun s v => .of_eq rfl, fun base _ _ => ?_⟩
  have all : ∀ e ∈ tab, RowOk prg w K mg base [] tab 23 e := by
    intro e he
    unfold tab at he
    simp only [List.mem_cons, List.not_mem_nil, or_false] at he
    rcases he with rfl | rfl | rfl | rfl | rfl | rfl | rfl | rfl | rfl | rfl | rfl | rfl | rfl | rfl | rfl | rfl | rfl | rfl | rfl | rfl | rfl | rfl | rfl | rfl | rfl | rfl | rfl | rfl | rfl
    · exact row_top_of GG F0 (PySem.W.mg_of X G a0) b0
    · exact row_at_least GG F1 (PySem.W.mg_of X G a1) b1
    · exact row_core_number GG F2 (PySem.W.mg_of X G a2) b2
    · exact row_core_form GG F3 (PySem.W.mg_of X G a3) b3
    · exact row_test_list GG F4 (PySem.W.mg_of X G a4) b4
    · exact row_without_repeats GG F5 (PySem.W.mg_of X G a5) b5
    · exact row_tests_of GG F6 (PySem.W.mg_of X G a6) b6
    · exact row_indexed GG F7 (PySem.W.mg_of X G a7) b7
    · exact row_indexed_value GG F8 (PySem.W.mg_of X G a8) b8
    · exact row_value_under GG F9 (PySem.W.mg_of X G a9) b9
    · exact row__law_deck GG F10 (PySem.W.mg_of X G a10) b10
    · exact row__law_decks GG F11 (PySem.W.mg_of X G a11) b11
    · exact row__law_draw GG F12 (PySem.W.mg_of X G a12) b12
    · exact row__law_names GG F13 (PySem.W.mg_of X G a13) b13
    · exact row__law_leaf GG F14 (PySem.W.mg_of X G a14) b14
    · exact row__law_code GG F15 (PySem.W.mg_of X G a15) b15
    · exact row__law_tree GG F16 (PySem.W.mg_of X G a16) b16
    · exact row__law_test GG F17 (PySem.W.mg_of X G a17) b17
    · exact row__law_truths GG F18 (PySem.W.mg_of X G a18) b18
    · exact row__law_least GG F19 (PySem.W.mg_of X G a19) b19
    · exact row__law_core GG F20 (PySem.W.mg_of X G a20) b20
    · exact row__law_tests GG F21 (PySem.W.mg_of X G a21) b21
    · exact row__law_value GG F22 (PySem.W.mg_of X G a22) b22
    · exact row__law_is_same GG F23 (PySem.W.mg_of X G a23) b23
    · exact row__law_known GG F24 (PySem.W.mg_of X G a24) b24
    · exact row__law_is_value GG F25 (PySem.W.mg_of X G a25) b25
    · exact row__law_on_card GG F26 (PySem.W.mg_of X G a26) b26
    · exact row__law_card_side GG F27 (PySem.W.mg_of X G a27) b27
    · exact row_law GG F28 (PySem.W.mg_of X G a28) b28
  have ok := all_ok all 207
  exact (fn_ok (F := ⟨1, 11, b_law⟩) F28 ⟨rfl, rfl, rfl, by decide +kernel, rfl, by decide +kernel, by decide +kernel⟩ rfl rfl (fun cdv A outer s H E hr => d_law GG (by omega) ok hr)).imp (law_sp law_true)
end K24
open PySem PySem.W PyProof.Rows
set_option maxHeartbeats 0 in
theorem PySem.Challenge.cw_snagdesk_k24_core_and_tests_holds : PySem.Challenge.rw_snagdesk_k24_core_and_tests.Holds := by
  w_on; o_law; k_head; (case hw => w_witness2)
  k_fill
  refine L2.walk_of (l := PySem.Challenge.rw_snagdesk_k24_core_and_tests) (n := 63) (k := 231) (x := "script") (CX := fun w => L2.CX K24.prg w) (sp := fun w => K24.spLaw _) rfl (by decide) rfl ⟨rfl, by decide, by decide⟩ (fun w h Y => PySem.W.kIn_of Y) ?F (fun _ _ a ns hl _ hS => ⟨a, ns, rfl, hl, hS, fun _ => rfl⟩) (fun w H s e s' h => by obtain ⟨_, _, _, _, _, _, _, _, _, _, _, _, z⟩ := h; exact z)
  case F =>
    intro w mg fa h KX G hmg
    refine' K24.all_mk KX G hmg ?a0 ?l0 ?c0 ?k0 ?a1 ?l1 ?c1 ?k1 ?a2 ?l2 ?c2 ?k2 ?a3 ?l3 ?c3 ?k3 ?a4 ?l4 ?c4 ?k4 ?a5 ?l5 ?c5 ?k5 ?a6 ?l6 ?c6 ?k6 ?a7 ?l7 ?c7 ?k7 ?a8 ?l8 ?c8 ?k8 ?a9 ?l9 ?c9 ?k9 ?a10 ?l10 ?c10 ?k10 ?a11 ?l11 ?c11 ?k11 ?a12 ?l12 ?c12 ?k12 ?a13 ?l13 ?c13 ?k13 ?a14 ?l14 ?c14 ?k14 ?a15 ?l15 ?c15 ?k15 ?a16 ?l16 ?c16 ?k16 ?a17 ?l17 ?c17 ?k17 ?a18 ?l18 ?c18 ?k18 ?a19 ?l19 ?c19 ?k19 ?a20 ?l20 ?c20 ?k20 ?a21 ?l21 ?c21 ?k21 ?a22 ?l22 ?c22 ?k22 ?a23 ?l23 ?c23 ?k23 ?a24 ?l24 ?c24 ?k24 ?a25 ?l25 ?c25 ?k25 ?a26 ?l26 ?c26 ?k26 ?a27 ?l27 ?c27 ?k27 ?a28 ?l28 ?c28 ?k28 ?z_bool ?z_int ?z_isinstance ?z_len ?z_list ?z_range ?z_reversed ?z_sorted ?z_str ?z_tuple ?v_TOP_POINTS ?v_TOP_PRIORITY
    (case a0 => k_is)
    (case l0 => k_is)
    (case c0 => k_is)
    (case k0 => k_is)
    (case a1 => k_is)
    (case l1 => k_is)
    (case c1 => k_is)
    (case k1 => k_is)
    (case a2 => k_is)
    (case l2 => k_is)
    (case c2 => k_is)
    (case k2 => k_is)
    (case a3 => k_is)
    (case l3 => k_is)
    (case c3 => k_is)
    (case k3 => k_is)
    (case a4 => k_is)
    (case l4 => k_is)
    (case c4 => k_is)
    (case k4 => k_is)
    (case a5 => k_is)
    (case l5 => k_is)
    (case c5 => k_is)
    (case k5 => k_is)
    (case a6 => k_is)
    (case l6 => k_is)
    (case c6 => k_is)
    (case k6 => k_is)
    (case a7 => k_is)
    (case l7 => k_is)
    (case c7 => k_is)
    (case k7 => k_is)
    (case a8 => k_is)
    (case l8 => k_is)
    (case c8 => k_is)
    (case k8 => k_is)
    (case a9 => k_is)
    (case l9 => k_is)
    (case c9 => k_is)
    (case k9 => k_is)
    (case a10 => k_is)
    (case l10 => k_is)
    (case c10 => k_is)
    (case k10 => k_is)
    (case a11 => k_is)
    (case l11 => k_is)
    (case c11 => k_is)
    (case k11 => k_is)
    (case a12 => k_is)
    (case l12 => k_is)
    (case c12 => k_is)
    (case k12 => k_is)
    (case a13 => k_is)
    (case l13 => k_is)
    (case c13 => k_is)
    (case k13 => k_is)
    (case a14 => k_is)
    (case l14 => k_is)
    (case c14 => k_is)
    (case k14 => k_is)
    (case a15 => k_is)
    (case l15 => k_is)
    (case c15 => k_is)
    (case k15 => k_is)
    (case a16 => k_is)
    (case l16 => k_is)
    (case c16 => k_is)
    (case k16 => k_is)
    (case a17 => k_is)
    (case l17 => k_is)
    (case c17 => k_is)
    (case k17 => k_is)
    (case a18 => k_is)
    (case l18 => k_is)
    (case c18 => k_is)
    (case k18 => k_is)
    (case a19 => k_is)
    (case l19 => k_is)
    (case c19 => k_is)
    (case k19 => k_is)
    (case a20 => k_is)
    (case l20 => k_is)
    (case c20 => k_is)
    (case k20 => k_is)
    (case a21 => k_is)
    (case l21 => k_is)
    (case c21 => k_is)
    (case k21 => k_is)
    (case a22 => k_is)
    (case l22 => k_is)
    (case c22 => k_is)
    (case k22 => k_is)
    (case a23 => k_is)
    (case l23 => k_is)
    (case c23 => k_is)
    (case k23 => k_is)
    (case a24 => k_is)
    (case l24 => k_is)
    (case c24 => k_is)
    (case k24 => k_is)
    (case a25 => k_is)
    (case l25 => k_is)
    (case c25 => k_is)
    (case k25 => k_is)
    (case a26 => k_is)
    (case l26 => k_is)
    (case c26 => k_is)
    (case k26 => k_is)
    (case a27 => k_is)
    (case l27 => k_is)
    (case c27 => k_is)
    (case k27 => k_is)
    (case a28 => k_is)
    (case l28 => k_is)
    (case c28 => k_is)
    (case k28 => k_is)
    (case z_bool => k_is)
    (case z_int => k_is)
    (case z_isinstance => k_is)
    (case z_len => k_is)
    (case z_list => k_is)
    (case z_range => k_is)
    (case z_reversed => k_is)
    (case z_sorted => k_is)
    (case z_str => k_is)
    (case z_tuple => k_is)
    (case v_TOP_POINTS => k_is)
    (case v_TOP_PRIORITY => k_is)
