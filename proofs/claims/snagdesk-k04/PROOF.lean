import PyProof.Rows.All
import Wide.All
import OpenK.AllK
import Wide.FinOn
import HandS.ForMost
import HandS.ForExc
import HandS.Deep
import HandS.Flow
import HandS.CallSlots
import HandS.TupAny
import HandS.Wide
import HandS.Rev
import HandS.RevRange
import HandS.Style
import HandS.Conv
import HandS.More
import HandS.Strs
import HandS.SortKw
import HandS.IsInst
import HandS.Small
import PyProof.SeqIndex
import KE.KIndexOf
import KE.SortData
import KE.KExcSuper
import KE.KSuper
import HandS.ExcInit
import HandS.ExcIs
import HandS.ExcField
import HandS.ExcOwn
import HandS.TryOnly
import KE.KRevSl
import HandS.RevTup
import PyProof.ListRange
import HandS.Dict
import HandS.TryMany
import HandS.DictComp
import KE.DataMinMax
import PySem.Challenge.RW_snagdesk_k04_walks
set_option Elab.async false
set_option linter.all false
set_option maxRecDepth 100000
set_option maxHeartbeats 8000000
/-! Ev1: data as trees, the tracked heap as a list, how both stand for the layer's values and heap. -/
namespace Ev
open PySem PyProof.Rows L2

/-- a value: tuples and closed lists are trees; ref i: the i-th open object -/
inductive D where
  | non | bl (b : Bool) | int (i : Int) | str (s : List Nat) | tup (xs : List D) | lst (xs : List D) | scr (xs : List D) | ref (i : Nat) | exc (a : Addr) (dd : Option Addr) (nm : List Str) (fs : List D)
/-- an open object -/
inductive O where
  | lst (xs : List D) | dict (kvs : List (D × D)) | dead
abbrev Hd := List O
inductive Res (α : Type) where
  | ok (a : α) (h : Hd) | exn (c : Nat) (fs : List D) (h : Hd) | stuck
def Res.bind {α β : Type} (r : Res α) (k : α → Hd → Res β) : Res β :=
  match r with
  | .ok a h => k a h
  | .exn c fs h => .exn c fs h
  | .stuck => .stuck

mutual
def D.lo (n : Nat) : D → Prop
  | .ref i => i < n
  | .tup xs => D.loA n xs
  | .lst xs => D.loA n xs
  | .scr xs => D.loA n xs
  | .exc _ _ _ xs => D.loA n xs
  | _ => True
def D.loA (n : Nat) : List D → Prop
  | [] => True
  | x :: xs => D.lo n x ∧ D.loA n xs
end
theorem D.loA_iff {n : Nat} : ∀ {xs : List D}, D.loA n xs ↔ ∀ x ∈ xs, D.lo n x
  | [] => by simp [D.loA]
  | x :: xs => by simp [D.loA, D.loA_iff (xs := xs)]
def O.lo (n : Nat) : O → Prop
  | .lst xs => D.loA n xs
  | .dict kvs => D.loA n (kvs.map (·.1)) ∧ D.loA n (kvs.map (·.2))
  | .dead => True

/-- where the open objects stand (none: closed for good); hid: objects that nobody may speak of -/
structure Rho where
  l : List (Option Addr)
  hid : List Addr
def Rho.has (r : Rho) (a : Addr) : Prop := some a ∈ r.l ∨ a ∈ r.hid
abbrev Rho.add (r : Rho) (p : Addr) : Rho := ⟨r.l ++ [some p], r.hid⟩
abbrev Rho.shut (r : Rho) (i : Nat) : Rho := ⟨r.l.set i none, r.hid⟩
abbrev Rho.cut (r : Rho) (n : Nat) : Rho := ⟨r.l.take n, r.hid⟩
abbrev Rho.nil : Rho := ⟨[], []⟩
abbrev Rho.hide (r : Rho) (p : Addr) : Rho := ⟨r.l, p :: r.hid⟩
def FzS (K : PySem.W.Frag) (H : Hp) (r : Rho) (a : Addr) (vs : List V) : Prop := (Rd H a (.lst vs) ∧ ¬ r.has a) ∨ SqL K (fun _ => none) a vs
def FzL (H : Hp) (r : Rho) (a : Addr) (vs : List V) : Prop := H a = some (.lst vs) ∧ ¬ r.has a
/-- a tuple's object as it is made -/
def PlainT (o : Obj) : Prop := ∃ its n, o = { cls := .type "tuple", dict := none, data := .seq its n, slots := #[] }
def FzT (K : PySem.W.Frag) (H : Hp) (r : Rho) (a : Addr) (vs : List V) : Prop :=
  (∃ o, H a = some (.frz o (.tup vs)) ∧ PlainT o ∧ ¬ r.has a) ∨ (SqT K (fun _ => none) a vs ∧ ∃ o, K.lookup a = some o ∧ PlainT o)
theorem no_rd {a : Addr} {u : HO} (h : Rd (fun _ => none) a u) : False := by
  rcases h with h | ⟨o, h⟩ <;> cases h
theorem FzL.seq {K : PySem.W.Frag} {H : Hp} {r : Rho} {a : Addr} {vs : List V} (h : FzL H r a vs) : SqL K H a vs := .inl (.inl h.1)
theorem FzS.seq {K : PySem.W.Frag} {H : Hp} {r : Rho} {a : Addr} {vs : List V} (h : FzS K H r a vs) : SqL K H a vs := by
  rcases h with h | h
  · exact .inl h.1
  · rcases h with h | h
    · exact (no_rd h).elim
    · exact .inr h
theorem FzT.seq {K : PySem.W.Frag} {H : Hp} {r : Rho} {a : Addr} {vs : List V} (h : FzT K H r a vs) : SqT K H a vs := by
  rcases h with ⟨o, h, _⟩ | ⟨h, _⟩
  · exact .inl (.inr ⟨o, h⟩)
  · rcases h with h | h
    · exact (no_rd h).elim
    · exact .inr h

/-- a text's signs are signs, it is not too long -/
def SOk (x : Str) : Prop := PySem.PyData.strOk x = true ∧ x.cps.size ≤ 1000000
mutual
/-- v, in the heap H, stands for the datum -/
inductive Rep (K : PySem.W.Frag) (H : Hp) (r : Rho) : V → D → Prop
  | non : Rep K H r .non .non
  | bl (b : Bool) : Rep K H r (.bl b) (.bl b)
  | int (i : Int) : Rep K H r (.int i) (.int i)
  | str (x : Str) : SOk x → Rep K H r (.str x) (.str x.cps.toList)
  | tup {a : Addr} {vs : List V} {ds : List D} : FzT K H r a vs → RepA K H r vs ds → Rep K H r (.ref a) (.tup ds)
  | lst {a : Addr} {vs : List V} {ds : List D} : FzL H r a vs → RepA K H r vs ds → Rep K H r (.ref a) (.lst ds)
  | scr {a : Addr} {vs : List V} {ds : List D} : FzS K H r a vs → RepA K H r vs ds → Rep K H r (.ref a) (.scr ds)
  | ref {a : Addr} {i : Nat} : r.l[i]? = some (some a) → Rep K H r (.ref a) (.ref i)
  | dead {v : V} {i : Nat} : r.l[i]? = some none → Rep K H r v (.ref i)
  | exc {a : Addr} {dd : Option Addr} {nm : List Str} {vs : List V} {ds : List D} : ((∃ d, dd = some d ∧ H d = some (.xd (nm.zip vs)) ∧ ¬ r.has d) ∨ dd = none) → (dd = none → ds = []) → vs.length = nm.length → RepA K H r vs ds → Rep K H r (.ref a) (.exc a dd nm ds)
inductive RepA (K : PySem.W.Frag) (H : Hp) (r : Rho) : List V → List D → Prop
  | nil : RepA K H r [] []
  | cons {v : V} {vs : List V} {d : D} {ds : List D} : Rep K H r v d → RepA K H r vs ds → RepA K H r (v :: vs) (d :: ds)
end

/-- what may have come to pass: closed things stay, open ones are the old ones or new -/
structure Ext (r : Rho) (H : Hp) (r' : Rho) (H' : Hp) : Prop where
  keep : ∀ a o, H a = some o → ¬ r.has a → H' a = some o
  new : ∀ a, r'.has a → r.has a ∨ H a = none
  hid : r'.hid = r.hid
  hkeep : ∀ a o, a ∈ r.hid → H a = some o → H' a = some o
  pre : ∀ (i : Nat) o, r.l[i]? = some o → r'.l[i]? = some o ∨ r'.l[i]? = some none

section
variable {K : PySem.W.Frag} {H H1 H2 H' : Hp} {r r1 r2 r' : Rho}
theorem Ext.refl (r : Rho) (H : Hp) : Ext r H r H := ⟨fun _ _ h _ => h, fun _ h => .inl h, rfl, fun _ _ _ h => h, fun _ _ h => .inl h⟩
theorem Ext.trans (x : Ext r H r1 H1) (y : Ext r1 H1 r2 H2) : Ext r H r2 H2 := by
  refine ⟨fun a o h n => ?_, fun a h => ?_, y.hid.trans x.hid, fun a o m h => y.hkeep a o (by rw [x.hid]; exact m) (x.hkeep a o m h), fun i o h => ?_⟩
  · refine y.keep a o (x.keep a o h n) fun m => ?_
    rcases x.new a m with q | q
    · exact n q
    · rw [h] at q; cases q
  · rcases y.new a h with q | q
    · exact x.new a q
    · cases e : H a with
      | none => exact .inr rfl
      | some o =>
        by_cases n : r.has a
        · exact .inl n
        · rw [x.keep a o e n] at q; cases q
  · rcases x.pre i o h with q | q
    · exact y.pre i o q
    · rcases y.pre i none q with z | z <;> exact .inr z
theorem Ext.rd {a : Addr} {u : HO} (x : Ext r H r' H') (h : Rd H a u) (n : ¬ r.has a) : Rd H' a u ∧ ¬ r'.has a := by
  refine ⟨?_, fun m => ?_⟩
  · rcases h with h | ⟨o, h⟩
    · exact .inl (x.keep a _ h n)
    · exact .inr ⟨o, x.keep a _ h n⟩
  · rcases x.new a m with q | q
    · exact n q
    · rcases h with h | ⟨o, h⟩
      · rw [h] at q; cases q
      · rw [h] at q; cases q
theorem Ext.fxd {dd : Option Addr} {fs : List (Str × V)} (x : Ext r H r' H') (h : (∃ d, dd = some d ∧ H d = some (.xd fs) ∧ ¬ r.has d) ∨ dd = none) : (∃ d, dd = some d ∧ H' d = some (.xd fs) ∧ ¬ r'.has d) ∨ dd = none :=
  h.imp (fun ⟨d, e, q, n⟩ => ⟨d, e, x.keep _ _ q n, (x.rd (.inl q) n).2⟩) id
theorem Ext.fzl {a : Addr} {vs : List V} (x : Ext r H r' H') (h : FzL H r a vs) : FzL H' r' a vs :=
  ⟨x.keep _ _ h.1 h.2, (x.rd (.inl h.1) h.2).2⟩
theorem Ext.fzs {a : Addr} {vs : List V} (x : Ext r H r' H') (h : FzS K H r a vs) : FzS K H' r' a vs := by
  rcases h with h | h
  · exact .inl (x.rd h.1 h.2)
  · exact .inr h
theorem Ext.fzt {a : Addr} {vs : List V} (x : Ext r H r' H') (h : FzT K H r a vs) : FzT K H' r' a vs := by
  rcases h with ⟨o, h, d, n⟩ | h
  · exact .inl ⟨o, x.keep _ _ h n, d, (x.rd (.inl h) n).2⟩
  · exact .inr h
mutual
theorem Rep.mono (x : Ext r H r' H') : ∀ {d : D} {v : V}, Rep K H r v d → Rep K H' r' v d
  | _, _, .non => .non
  | _, _, .bl b => .bl b
  | _, _, .int i => .int i
  | _, _, .str z h => .str z h
  | _, _, .tup h k => .tup (x.fzt h) (RepA.mono x k)
  | _, _, .lst h k => .lst (x.fzl h) (RepA.mono x k)
  | _, _, .scr h k => .scr (x.fzs h) (RepA.mono x k)
  | _, _, .ref h => (x.pre _ _ h).elim (fun q => .ref q) fun q => .dead q
  | _, _, .dead h => (x.pre _ _ h).elim (fun q => .dead q) fun q => .dead q
  | _, _, .exc h z l k => .exc (x.fxd h) z l (RepA.mono x k)
theorem RepA.mono (x : Ext r H r' H') : ∀ {ds : List D} {vs : List V}, RepA K H r vs ds → RepA K H' r' vs ds
  | _, _, .nil => .nil
  | _, _, .cons h k => .cons (Rep.mono x h) (RepA.mono x k)
end
theorem RepA.len : ∀ {ds : List D} {vs : List V}, RepA K H r vs ds → vs.length = ds.length
  | _, _, .nil => rfl
  | _, _, .cons _ k => by rw [List.length_cons, List.length_cons, RepA.len k]
theorem RepA.app : ∀ {ds es : List D} {vs us : List V}, RepA K H r vs ds → RepA K H r us es → RepA K H r (vs ++ us) (ds ++ es)
  | _, _, _, _, .nil, k => k
  | _, _, _, _, .cons h k, l => .cons h (RepA.app k l)
theorem RepA.get : ∀ {ds : List D} {vs : List V} {i : Nat} {v : V}, RepA K H r vs ds → vs[i]? = some v → ∃ d, ds[i]? = some d ∧ Rep K H r v d
  | _, _, _, _, .nil, e => by simp at e
  | _, _, 0, _, .cons h _, e => by simp at e; subst e; exact ⟨_, rfl, h⟩
  | _, _, i + 1, v, .cons _ k, e => by
    obtain ⟨d, h1, h2⟩ := RepA.get (i := i) (v := v) k (by simpa using e)
    exact ⟨d, by simpa using h1, h2⟩
theorem RepA.get' : ∀ {ds : List D} {vs : List V} {i : Nat} {d : D}, RepA K H r vs ds → ds[i]? = some d → ∃ v, vs[i]? = some v ∧ Rep K H r v d
  | _, _, _, _, .nil, e => by simp at e
  | _, _, 0, _, .cons h _, e => by simp at e; subst e; exact ⟨_, rfl, h⟩
  | _, _, i + 1, d, .cons _ k, e => by
    obtain ⟨v, h1, h2⟩ := RepA.get' (i := i) (d := d) k (by simpa using e)
    exact ⟨v, by simpa using h1, h2⟩
theorem RepA.take : ∀ {ds : List D} {vs : List V} (n : Nat), RepA K H r vs ds → RepA K H r (vs.take n) (ds.take n)
  | _, _, 0, _ => by simpa using RepA.nil
  | _, _, _ + 1, .nil => by simpa using RepA.nil
  | _, _, n + 1, .cons h k => by simpa using RepA.cons h (RepA.take n k)
theorem RepA.drop : ∀ {ds : List D} {vs : List V} (n : Nat), RepA K H r vs ds → RepA K H r (vs.drop n) (ds.drop n)
  | _, _, 0, k => by simpa using k
  | _, _, _ + 1, .nil => by simpa using RepA.nil
  | _, _, n + 1, .cons h k => by simpa using RepA.drop n k
theorem RepA.set {v : V} {d : D} (q : Rep K H r v d) : ∀ {ds : List D} {vs : List V} (n : Nat), RepA K H r vs ds → RepA K H r (vs.set n v) (ds.set n d)
  | _, _, _, .nil => .nil
  | _, _, 0, .cons h k => .cons q k
  | _, _, n + 1, .cons h k => .cons h (RepA.set q n k)
theorem RepA.rev {ds : List D} {vs : List V} (k : RepA K H r vs ds) : RepA K H r vs.reverse ds.reverse := by
  induction ds generalizing vs with
  | nil => cases k; exact .nil
  | cons d ds ih =>
    cases k with
    | cons h k => rw [List.reverse_cons, List.reverse_cons]; exact (ih k).app (.cons h .nil)
theorem RepA.ofGet : ∀ {ds : List D} {vs : List V}, vs.length = ds.length → (∀ (i : Nat) v d, vs[i]? = some v → ds[i]? = some d → Rep K H r v d) → RepA K H r vs ds
  | [], [], _, _ => .nil
  | [], _ :: _, h, _ => by simp at h
  | _ :: _, [], h, _ => by simp at h
  | d :: ds, v :: vs, h, k => .cons (k 0 v d rfl rfl) (RepA.ofGet (by simpa using h) fun i v d e1 e2 => k (i + 1) v d (by simpa using e1) (by simpa using e2))

/-- the open objects -/
def KeyD : Key → D
  | .inl i => .int i
  | .inr x => .str x.cps.toList
def KeyOk : Key → Prop
  | .inl _ => True
  | .inr x => SOk x
inductive RepK (K : PySem.W.Frag) (H : Hp) (r : Rho) : List (Key × V) → List (D × D) → Prop
  | nil : RepK K H r [] []
  | cons {k : Key} {v : V} {d : D} {kvs : List (Key × V)} {es : List (D × D)} : KeyOk k → Rep K H r v d → RepK K H r kvs es → RepK K H r ((k, v) :: kvs) ((KeyD k, d) :: es)
def OR (K : PySem.W.Frag) (H : Hp) (r : Rho) (a : Addr) : O → Prop
  | .lst ds => ∃ vs, H a = some (.lst vs) ∧ RepA K H r vs ds
  | .dict es => ∃ kvs, H a = some (.dK kvs) ∧ RepK K H r kvs es
  | .dead => False
structure R (K : PySem.W.Frag) (r : Rho) (h : Hd) (H : Hp) : Prop where
  len : r.l.length = h.length
  inj : ∀ (i j : Nat) a, r.l[i]? = some (some a) → r.l[j]? = some (some a) → i = j
  get : ∀ (i : Nat) a, r.l[i]? = some (some a) → ∃ o, h[i]? = some o ∧ OR K H r a o
  dead : ∀ (i : Nat), r.l[i]? = some none → h[i]? = some .dead
  hid : ∀ a, a ∈ r.hid → H a ≠ none ∧ some a ∉ r.l
theorem RepK.mono (x : Ext r H r' H') : ∀ {es : List (D × D)} {kvs : List (Key × V)}, RepK K H r kvs es → RepK K H' r' kvs es
  | _, _, .nil => .nil
  | _, _, .cons h k l => .cons h (k.mono x) (RepK.mono x l)
/-- an open object that was not touched -/
theorem OR.mono {a : Addr} {o : O} (x : Ext r H r' H') (e : H' a = H a) (h : OR K H r a o) : OR K H' r' a o := by
  cases o with
  | lst ds => obtain ⟨vs, h1, h2⟩ := h; exact ⟨vs, e.trans h1, h2.mono x⟩
  | dict es => obtain ⟨kvs, h1, h2⟩ := h; exact ⟨kvs, e.trans h1, h2.mono x⟩
  | dead => exact h.elim
theorem OR.some {a : Addr} {o : O} (h : OR K H r a o) : ∃ u, H a = some u ∧ Mut (some u) := by
  cases o with
  | lst ds => obtain ⟨vs, h1, h2⟩ := h; exact ⟨_, h1, trivial⟩
  | dict es => obtain ⟨kvs, h1, h2⟩ := h; exact ⟨_, h1, trivial⟩
  | dead => exact h.elim
variable {h h' : Hd}
theorem R.live (x : R K r h H) {a : Addr} (m : some a ∈ r.l) : ∃ (i : Nat) (o : O), r.l[i]? = some (some a) ∧ h[i]? = some o ∧ OR K H r a o := by
  obtain ⟨i, hi⟩ := List.mem_iff_getElem?.mp m
  obtain ⟨o, h1, h2⟩ := x.get i a hi
  exact ⟨i, o, hi, h1, h2⟩
theorem R.fresh (x : R K r h H) {p : Addr} (n : H p = none) : ¬ r.has p := fun m => by
  rcases m with m | m
  · obtain ⟨i, o, _, _, h2⟩ := x.live m
    obtain ⟨u, e, _⟩ := h2.some
    rw [n] at e; cases e
  · exact (x.hid p m).1 n
theorem Ext.laid {p : Addr} {o : HO} (n : H p = none) : Ext r H r (upd H p o) :=
  ⟨fun a u h _ => by rw [upd_ne (ne_of_none h n)]; exact h, fun _ h => .inl h, rfl, fun a u _ h => by rw [upd_ne (ne_of_none h n)]; exact h, fun _ _ h => .inl h⟩
theorem upd_some {p a : Addr} {o : HO} (h : H a ≠ none) : upd H p o a ≠ none := by
  by_cases e : a = p
  · subst e; rw [upd_same]; exact fun z => by cases z
  · rw [upd_ne e]; exact h
/-- a new closed object -/
theorem R.laid (x : R K r h H) {p : Addr} {o : HO} (n : H p = none) : R K r h (upd H p o) := by
  refine ⟨x.len, x.inj, fun i a e => ?_, x.dead, fun a m => ⟨upd_some (x.hid a m).1, (x.hid a m).2⟩⟩
  obtain ⟨u, h1, h2⟩ := x.get i a e
  refine ⟨u, h1, h2.mono (Ext.laid n) ?_⟩
  obtain ⟨z, e, _⟩ := h2.some
  rw [upd_ne (ne_of_none e n)]
theorem add_get {i : Nat} {p : Addr} {o : Option Addr} (e : (r.add p).l[i]? = some o) : (i < r.l.length ∧ r.l[i]? = some o) ∨ (i = r.l.length ∧ o = some p) := by
  have e : (r.l ++ [some p])[i]? = some o := e
  by_cases hi : i < r.l.length
  · rw [List.getElem?_append_left hi] at e
    exact .inl ⟨hi, e⟩
  · have hl := (List.getElem?_eq_some_iff.mp e).1
    simp at hl
    have hi' : i = r.l.length := by omega
    subst hi'
    rw [List.getElem?_append_right (Nat.le_refl _)] at e
    simp at e
    exact .inr ⟨rfl, e.symm⟩
theorem add_has {p a : Addr} (h : (r.add p).has a) : r.has a ∨ a = p := by
  rcases h with h | h
  · rcases List.mem_append.mp h with h | h
    · exact .inl (.inl h)
    · exact .inr (by simpa using h)
  · exact .inl (.inr h)
/-- a new open object -/
theorem Ext.push {p : Addr} {o : HO} (n : H p = none) : Ext r H (r.add p) (upd H p o) := by
  refine ⟨fun a u h _ => by rw [upd_ne (ne_of_none h n)]; exact h, fun a h => ?_, rfl, fun a u _ h => by rw [upd_ne (ne_of_none h n)]; exact h, fun i o h => ?_⟩
  · rcases add_has h with h | rfl
    · exact .inl h
    · exact .inr n
  · refine .inl ?_
    show (r.l ++ [some p])[i]? = some o
    rw [List.getElem?_append_left (List.getElem?_eq_some_iff.mp h).1]
    exact h
/-- an object that nobody speaks of becomes an open one -/
theorem R.adopt (x : R K r h H) {r0 : Rho} {p : Addr} {o : O} (n : some p ∉ r.l) (e : r = ⟨r0.l, r.hid⟩) (hh : ∀ a, a ∈ r0.hid → a ∈ r.hid ∧ a ≠ p) (mo : ∀ a o, OR K H r a o → OR K H (r0.add p) a o) (q : OR K H (r0.add p) p o) : R K (r0.add p) (h ++ [o]) H := by
  have el : r.l = r0.l := by rw [e]
  refine ⟨?_, fun i j a e1 e2 => ?_, fun i a e1 => ?_, fun i e1 => ?_, fun a m => ?_⟩
  · show (r0.l ++ [some p]).length = _
    rw [List.length_append, List.length_append, ← el, x.len]; rfl
  · rcases add_get e1 with ⟨h1, e1⟩ | ⟨rfl, h1⟩
    · rcases add_get e2 with ⟨h2, e2⟩ | ⟨rfl, h2⟩
      · exact x.inj i j a (by rw [el]; exact e1) (by rw [el]; exact e2)
      · cases h2
        exact absurd (List.mem_iff_getElem?.mpr ⟨i, by rw [el]; exact e1⟩) n
    · cases h1
      rcases add_get e2 with ⟨h2, e2⟩ | ⟨rfl, h2⟩
      · exact absurd (List.mem_iff_getElem?.mpr ⟨j, by rw [el]; exact e2⟩) n
      · rfl
  · rcases add_get e1 with ⟨h1, e1⟩ | ⟨rfl, h1⟩
    · obtain ⟨o', h3, h4⟩ := x.get i a (by rw [el]; exact e1)
      exact ⟨o', by rw [List.getElem?_append_left (by rw [← x.len, el]; exact h1)]; exact h3, mo _ _ h4⟩
    · cases h1
      exact ⟨o, by rw [← el, x.len, List.getElem?_append_right (Nat.le_refl _)]; simp, q⟩
  · rcases add_get e1 with ⟨h1, e1⟩ | ⟨rfl, h1⟩
    · rw [List.getElem?_append_left (by rw [← x.len, el]; exact h1)]
      exact x.dead i (by rw [el]; exact e1)
    · cases h1
  · obtain ⟨m1, m2⟩ := hh a m
    obtain ⟨h1, h2⟩ := x.hid a m1
    refine ⟨h1, fun z => ?_⟩
    rcases List.mem_append.mp z with z | z
    · exact h2 (by rw [el]; exact z)
    · exact m2 (by simpa using z)
theorem R.push (x : R K r h H) {p : Addr} {u : HO} {o : O} (n : H p = none) (q : OR K (upd H p u) (r.add p) p o) : R K (r.add p) (h ++ [o]) (upd H p u) := by
  have np := x.fresh n
  refine ⟨?_, fun i j a e1 e2 => ?_, fun i a e1 => ?_, fun i e1 => ?_, fun a m => ?_⟩
  · show (r.l ++ [some p]).length = _
    rw [List.length_append, List.length_append, x.len]; rfl
  · rcases add_get e1 with ⟨h1, e1⟩ | ⟨rfl, h1⟩
    · rcases add_get e2 with ⟨h2, e2⟩ | ⟨rfl, h2⟩
      · exact x.inj i j a e1 e2
      · cases h2
        exact absurd (.inl (List.mem_iff_getElem?.mpr ⟨i, e1⟩)) np
    · cases h1
      rcases add_get e2 with ⟨h2, e2⟩ | ⟨rfl, h2⟩
      · exact absurd (.inl (List.mem_iff_getElem?.mpr ⟨j, e2⟩)) np
      · rfl
  · rcases add_get e1 with ⟨h1, e1⟩ | ⟨rfl, h1⟩
    · obtain ⟨o', h3, h4⟩ := x.get i a e1
      refine ⟨o', by rw [List.getElem?_append_left (by rw [← x.len]; exact h1)]; exact h3, h4.mono (Ext.push n) ?_⟩
      obtain ⟨z, e, _⟩ := h4.some
      rw [upd_ne (ne_of_none e n)]
    · cases h1
      exact ⟨o, by rw [x.len, List.getElem?_append_right (Nat.le_refl _)]; simp, q⟩
  · rcases add_get e1 with ⟨h1, e1⟩ | ⟨rfl, h1⟩
    · rw [List.getElem?_append_left (by rw [← x.len]; exact h1)]
      exact x.dead i e1
    · cases h1
  · refine ⟨upd_some (x.hid a m).1, fun z => ?_⟩
    rcases List.mem_append.mp z with z | z
    · exact (x.hid a m).2 z
    · have e : a = p := by simpa using z
      subst e
      exact (x.hid a m).1 n
/-- an open object is changed -/
theorem Ext.wrote {a : Addr} {u : HO} (x : R K r h H) (m : some a ∈ r.l) : Ext r H r (upd H a u) :=
  ⟨fun b o h n => by rw [upd_ne (fun e => n (by rw [e]; exact .inl m))]; exact h, fun _ h => .inl h, rfl, fun b o hb h => by rw [upd_ne (fun e => (x.hid b hb).2 (by rw [e]; exact m))]; exact h, fun _ _ h => .inl h⟩
theorem R.wrote (x : R K r h H) {i : Nat} {a : Addr} {u : HO} {o : O} (e : r.l[i]? = some (some a)) (q : OR K (upd H a u) r a o) : R K r (h.set i o) (upd H a u) := by
  have hi : i < h.length := by rw [← x.len]; exact (List.getElem?_eq_some_iff.mp e).1
  refine ⟨by simp [x.len], x.inj, fun j b e2 => ?_, fun j e2 => ?_, fun a m => ⟨upd_some (x.hid a m).1, (x.hid a m).2⟩⟩
  · by_cases hj : j = i
    · subst hj
      rw [e] at e2; cases e2
      exact ⟨o, by rw [List.getElem?_set_self hi], q⟩
    · obtain ⟨o', h1, h2⟩ := x.get j b e2
      refine ⟨o', by rw [List.getElem?_set_ne (Ne.symm hj)]; exact h1, h2.mono (Ext.wrote x (List.mem_iff_getElem?.mpr ⟨i, e⟩)) ?_⟩
      rw [upd_ne]
      rintro rfl
      exact hj (x.inj _ _ _ e2 e)
  · have hj : i ≠ j := by
      rintro rfl
      rw [e] at e2; cases e2
    rw [List.getElem?_set_ne hj]
    exact x.dead j e2
/-- an open list is closed for good -/
theorem set_has {i : Nat} {a : Addr} (h : (r.shut i).has a) : r.has a := by
  rcases h with h | h
  · rcases List.mem_or_eq_of_mem_set h with q | q
    · exact .inl q
    · cases q
  · exact .inr h
theorem Ext.shut {i : Nat} : Ext r H (r.shut i) H := by
  refine ⟨fun _ _ h _ => h, fun a h => .inl (set_has h), rfl, fun _ _ _ h => h, fun j o h => ?_⟩
  show (r.l.set i none)[j]? = some o ∨ (r.l.set i none)[j]? = some none
  by_cases hj : j = i
  · subst hj
    exact .inr (by rw [List.getElem?_set_self (List.getElem?_eq_some_iff.mp h).1])
  · exact .inl (by rw [List.getElem?_set_ne (Ne.symm hj)]; exact h)
theorem R.shut (x : R K r h H) {i : Nat} (hi : i < h.length) : R K (r.shut i) (h.set i .dead) H := by
  have hi' : i < r.l.length := by rw [x.len]; exact hi
  have ne : ∀ {j : Nat} {a : Addr}, (r.l.set i none)[j]? = some (some a) → j ≠ i ∧ r.l[j]? = some (some a) := fun {j a} e => by
    by_cases hj : j = i
    · subst hj
      rw [List.getElem?_set_self hi'] at e; cases e
    · rw [List.getElem?_set_ne (Ne.symm hj)] at e
      exact ⟨hj, e⟩
  refine ⟨by simp [x.len], fun j k a e1 e2 => x.inj j k a (ne e1).2 (ne e2).2, fun j a e => ?_, fun j e => ?_, fun a m => ⟨(x.hid a m).1, fun z => ?_⟩⟩
  · obtain ⟨hj, e⟩ := ne e
    obtain ⟨o, h1, h2⟩ := x.get j a e
    exact ⟨o, by rw [List.getElem?_set_ne (Ne.symm hj)]; exact h1, h2.mono Ext.shut rfl⟩
  · have e : (r.l.set i none)[j]? = some none := e
    by_cases hj : j = i
    · subst hj
      rw [List.getElem?_set_self hi]
    · rw [List.getElem?_set_ne (Ne.symm hj)] at e ⊢
      exact x.dead j e
  · rcases List.mem_or_eq_of_mem_set z with q | q
    · exact (x.hid a m).2 q
    · cases q
/-- a closed list that was open -/
theorem Rep.shut (x : R K r h H) {i : Nat} {a : Addr} {ds : List D} (e : r.l[i]? = some (some a)) (o : h[i]? = some (.lst ds)) : Rep K H (r.shut i) (.ref a) (.lst ds) := by
  obtain ⟨o', h1, h2⟩ := x.get i a e
  rw [o] at h1; cases h1
  obtain ⟨vs, h3, h4⟩ := h2
  refine .lst ⟨h3, fun m => ?_⟩ (h4.mono Ext.shut)
  rcases m with m | m
  · obtain ⟨j, hj⟩ := List.mem_iff_getElem?.mp m
    by_cases hji : j = i
    · subst hji
      rw [List.getElem?_set_self (List.getElem?_eq_some_iff.mp e).1] at hj; cases hj
    · rw [List.getElem?_set_ne (Ne.symm hji)] at hj
      exact hji (x.inj _ _ _ hj e)
  · exact (x.hid a m).2 (List.mem_iff_getElem?.mpr ⟨i, e⟩)

/-! ### behind a call: what is new and not wanted is forgotten -/
theorem mem_take {a : Addr} {n : Nat} (m : (r.cut n).has a) : r.has a := m.elim (fun m => .inl (List.mem_of_mem_take m)) .inr
mutual
theorem Rep.cut {n : Nat} : ∀ {d : D} {v : V}, Rep K H r v d → d.lo n → Rep K H (r.cut n) v d
  | _, _, .non, _ => .non
  | _, _, .bl b, _ => .bl b
  | _, _, .int i, _ => .int i
  | _, _, .str z h, _ => .str z h
  | _, _, .tup h k, b => .tup (h.imp (fun ⟨o, q, d, n⟩ => ⟨o, q, d, fun m => n (mem_take m)⟩) id) (RepA.cut k (by unfold D.lo at b; exact b))
  | _, _, .lst h k, b => .lst ⟨h.1, fun m => h.2 (mem_take m)⟩ (RepA.cut k (by unfold D.lo at b; exact b))
  | _, _, .scr h k, b => .scr (h.imp (fun q => ⟨q.1, fun m => q.2 (mem_take m)⟩) id) (RepA.cut k (by unfold D.lo at b; exact b))
  | _, _, .ref h, b => .ref (by show (r.l.take n)[_]? = _; rw [List.getElem?_take_of_lt (by unfold D.lo at b; exact b)]; exact h)
  | _, _, .dead h, b => .dead (by show (r.l.take n)[_]? = _; rw [List.getElem?_take_of_lt (by unfold D.lo at b; exact b)]; exact h)
  | _, _, .exc h z l k, b => .exc (h.imp (fun ⟨d, e, q, n⟩ => ⟨d, e, q, fun m => n (mem_take m)⟩) id) z l (RepA.cut k (by unfold D.lo at b; exact b))
theorem RepA.cut {n : Nat} : ∀ {ds : List D} {vs : List V}, RepA K H r vs ds → D.loA n ds → RepA K H (r.cut n) vs ds
  | _, _, .nil, _ => .nil
  | _, _, .cons h k, b => .cons (Rep.cut h (by unfold D.loA at b; exact b.1)) (RepA.cut k (by unfold D.loA at b; exact b.2))
end
mutual
theorem Rep.lo : ∀ {d : D} {v : V}, Rep K H r v d → d.lo r.l.length
  | _, _, .non => by unfold D.lo; trivial
  | _, _, .bl b => by unfold D.lo; trivial
  | _, _, .int i => by unfold D.lo; trivial
  | _, _, .str z h => by unfold D.lo; trivial
  | _, _, .tup h k => by unfold D.lo; exact RepA.lo k
  | _, _, .lst h k => by unfold D.lo; exact RepA.lo k
  | _, _, .scr h k => by unfold D.lo; exact RepA.lo k
  | _, _, .ref h => by unfold D.lo; exact (List.getElem?_eq_some_iff.mp h).1
  | _, _, .dead h => by unfold D.lo; exact (List.getElem?_eq_some_iff.mp h).1
  | _, _, .exc h z l k => by unfold D.lo; exact RepA.lo k
theorem RepA.lo : ∀ {ds : List D} {vs : List V}, RepA K H r vs ds → D.loA r.l.length ds
  | _, _, .nil => by unfold D.loA; trivial
  | _, _, .cons h k => by unfold D.loA; exact ⟨Rep.lo h, RepA.lo k⟩
end
theorem RepK.cut {n : Nat} : ∀ {es : List (D × D)} {kvs : List (Key × V)}, RepK K H r kvs es → D.loA n (es.map (·.2)) → RepK K H (r.cut n) kvs es
  | _, _, .nil, _ => .nil
  | _, _, .cons h k l, b => by
    rw [List.map_cons] at b; unfold D.loA at b
    exact .cons h (k.cut b.1) (RepK.cut l b.2)
theorem RepK.lo : ∀ {es : List (D × D)} {kvs : List (Key × V)}, RepK K H r kvs es → D.loA r.l.length (es.map (·.1)) ∧ D.loA r.l.length (es.map (·.2))
  | _, _, .nil => by simp [D.loA]
  | _, _, .cons (k := k) h q l => by
    have ih := RepK.lo l
    rw [List.map_cons, List.map_cons]; unfold D.loA
    refine ⟨⟨?_, ih.1⟩, q.lo, ih.2⟩
    cases k <;> (unfold KeyD D.lo; trivial)
theorem OR.cut {n : Nat} {a : Addr} {o : O} (x : OR K H r a o) (b : o.lo n) : OR K H (r.cut n) a o := by
  cases o with
  | lst ds => obtain ⟨vs, h1, h2⟩ := x; exact ⟨vs, h1, h2.cut b⟩
  | dict es => obtain ⟨kvs, h1, h2⟩ := x; exact ⟨kvs, h1, h2.cut b.2⟩
  | dead => exact x.elim
theorem OR.lo {a : Addr} {o : O} (x : OR K H r a o) : o.lo r.l.length := by
  cases o with
  | lst ds => obtain ⟨vs, h1, h2⟩ := x; exact h2.lo
  | dict es => obtain ⟨kvs, h1, h2⟩ := x; exact h2.lo
  | dead => exact x.elim
theorem Ext.cut {n : Nat} (x : Ext r H r' H') (hn : r.l.length ≤ n) : Ext r H (r'.cut n) H' := by
  refine ⟨x.keep, fun a m => x.new a (mem_take m), x.hid, x.hkeep, fun i o e => ?_⟩
  show (r'.l.take n)[i]? = some o ∨ (r'.l.take n)[i]? = some none
  have hi := (List.getElem?_eq_some_iff.mp e).1
  rw [List.getElem?_take_of_lt (by omega)]
  exact x.pre i o e
/-- what a call may leave of the objects ahead of it -/
def Clean (h h' : Hd) : Prop := ∀ j, j < h.length → h'[j]? = h[j]? ∨ ∃ o, h'[j]? = some o ∧ o.lo h.length
theorem R.cut (x : R K r h H) (y : R K r' h' H') (c : Clean h h') : R K (r'.cut h.length) (h'.take h.length) H' := by
  have get : ∀ {i : Nat} {o : Option Addr}, (r'.l.take h.length)[i]? = some o → i < h.length ∧ r'.l[i]? = some o := fun {i o} e => by
    have hi : i < h.length := by
      have := (List.getElem?_eq_some_iff.mp e).1
      rw [List.length_take] at this
      omega
    rw [List.getElem?_take_of_lt hi] at e
    exact ⟨hi, e⟩
  refine ⟨by rw [List.length_take, List.length_take, y.len], fun i j a e1 e2 => y.inj i j a (get e1).2 (get e2).2, fun i a e => ?_, fun i e => ?_, fun a m => ⟨(y.hid a m).1, fun z => (y.hid a m).2 (List.mem_of_mem_take z)⟩⟩
  · obtain ⟨hi, e⟩ := get e
    obtain ⟨o, h1, h2⟩ := y.get i a e
    refine ⟨o, by rw [List.getElem?_take_of_lt hi]; exact h1, h2.cut ?_⟩
    rcases c i hi with q | ⟨o', q, b⟩
    · rw [h1] at q
      have hr : i < r.l.length := by rw [x.len]; exact hi
      cases e0 : r.l[i]? with
      | none => rw [List.getElem?_eq_none_iff] at e0; omega
      | some oa =>
        cases oa with
        | none =>
          have q2 := x.dead i e0
          rw [← q] at q2; cases q2
          exact h2.elim
        | some a0 =>
          obtain ⟨o0, h3, h4⟩ := x.get i a0 e0
          rw [← q] at h3; cases h3
          rw [← x.len]
          exact h4.lo
    · rw [h1] at q; cases q; exact b
  · obtain ⟨hi, e⟩ := get e
    rw [List.getElem?_take_of_lt hi]
    exact y.dead i e
end

/-! ### hiding an object, and back -/
section
variable {K : PySem.W.Frag} {H H' : Hp} {r r' : Rho}
structure Shift (r : Rho) (H : Hp) (r' : Rho) (H' : Hp) : Prop where
  pre : ∀ (i : Nat) o, r.l[i]? = some o → r'.l[i]? = some o
  keep : ∀ a o, H a = some o → ¬ r.has a → H' a = some o
  back : ∀ a, H a ≠ none → r'.has a → r.has a
theorem Shift.ne (x : Shift r H r' H') {a : Addr} {o : HO} (h : H a = some o) (n : ¬ r.has a) : ¬ r'.has a := fun m => n (x.back a (by rw [h]; exact fun z => by cases z) m)
theorem Shift.fxd {dd : Option Addr} {fs : List (Str × V)} (x : Shift r H r' H') (h : (∃ d, dd = some d ∧ H d = some (.xd fs) ∧ ¬ r.has d) ∨ dd = none) : (∃ d, dd = some d ∧ H' d = some (.xd fs) ∧ ¬ r'.has d) ∨ dd = none :=
  h.imp (fun ⟨d, e, q, n⟩ => ⟨d, e, x.keep _ _ q n, x.ne q n⟩) id
theorem Shift.fzl {a : Addr} {vs : List V} (x : Shift r H r' H') (h : FzL H r a vs) : FzL H' r' a vs := ⟨x.keep _ _ h.1 h.2, x.ne h.1 h.2⟩
theorem Shift.fzs {a : Addr} {vs : List V} (x : Shift r H r' H') (h : FzS K H r a vs) : FzS K H' r' a vs := by
  rcases h with ⟨h, n⟩ | h
  · rcases h with h | ⟨o, h⟩
    · exact .inl ⟨.inl (x.keep _ _ h n), x.ne h n⟩
    · exact .inl ⟨.inr ⟨o, x.keep _ _ h n⟩, x.ne h n⟩
  · exact .inr h
theorem Shift.fzt {a : Addr} {vs : List V} (x : Shift r H r' H') (h : FzT K H r a vs) : FzT K H' r' a vs := by
  rcases h with ⟨o, h, d, n⟩ | h
  · exact .inl ⟨o, x.keep _ _ h n, d, x.ne h n⟩
  · exact .inr h
mutual
theorem Rep.shift (x : Shift r H r' H') : ∀ {d : D} {v : V}, Rep K H r v d → Rep K H' r' v d
  | _, _, .non => .non
  | _, _, .bl b => .bl b
  | _, _, .int i => .int i
  | _, _, .str z h => .str z h
  | _, _, .tup h k => .tup (x.fzt h) (RepA.shift x k)
  | _, _, .lst h k => .lst (x.fzl h) (RepA.shift x k)
  | _, _, .scr h k => .scr (x.fzs h) (RepA.shift x k)
  | _, _, .ref h => .ref (x.pre _ _ h)
  | _, _, .dead h => .dead (x.pre _ _ h)
  | _, _, .exc h z l k => .exc (x.fxd h) z l (RepA.shift x k)
theorem RepA.shift (x : Shift r H r' H') : ∀ {ds : List D} {vs : List V}, RepA K H r vs ds → RepA K H' r' vs ds
  | _, _, .nil => .nil
  | _, _, .cons h k => .cons (Rep.shift x h) (RepA.shift x k)
end
theorem RepK.shift (x : Shift r H r' H') : ∀ {es : List (D × D)} {kvs : List (Key × V)}, RepK K H r kvs es → RepK K H' r' kvs es
  | _, _, .nil => .nil
  | _, _, .cons h k l => .cons h (k.shift x) (RepK.shift x l)
theorem OR.shift {a : Addr} {o : O} (x : Shift r H r' H') (e : H' a = H a) (h : OR K H r a o) : OR K H' r' a o := by
  cases o with
  | lst ds => obtain ⟨vs, h1, h2⟩ := h; exact ⟨vs, e.trans h1, h2.shift x⟩
  | dict es => obtain ⟨kvs, h1, h2⟩ := h; exact ⟨kvs, e.trans h1, h2.shift x⟩
  | dead => exact h.elim
theorem Shift.hide {p : Addr} {o : HO} (n : H p = none) : Shift r H (r.hide p) (upd H p o) := by
  refine ⟨fun _ _ h => h, fun a u h _ => by rw [upd_ne (ne_of_none h n)]; exact h, fun a h m => ?_⟩
  rcases m with m | m
  · exact .inl m
  · rcases List.mem_cons.mp m with rfl | m
    · exact (h n).elim
    · exact .inr m
theorem R.hide {h : Hd} (x : R K r h H) {p : Addr} {o : HO} (n : H p = none) : R K (r.hide p) h (upd H p o) := by
  have y := x.laid (o := o) n
  refine ⟨x.len, x.inj, fun i a e => ?_, x.dead, fun a m => ?_⟩
  · obtain ⟨u, h1, h2⟩ := x.get i a e
    refine ⟨u, h1, h2.shift (Shift.hide n) ?_⟩
    obtain ⟨z, e, _⟩ := h2.some
    rw [upd_ne (ne_of_none e n)]
  · rcases List.mem_cons.mp m with rfl | m
    · exact ⟨(by rw [upd_same]; exact fun z => nomatch z), fun z => x.fresh n (.inl z)⟩
    · exact y.hid a m
theorem Shift.bare {hid : List Addr} (h : ∀ a ∈ hid, a ∈ r.hid) : Shift r H ⟨r.l, hid⟩ H := ⟨fun _ _ h => h, fun _ _ h _ => h, fun a _ m => m.elim .inl fun m => .inr (h a m)⟩
theorem R.bare {h : Hd} {hid : List Addr} (x : R K r h H) (m : ∀ a ∈ hid, a ∈ r.hid) : R K ⟨r.l, hid⟩ h H :=
  ⟨x.len, x.inj, fun i a e => let ⟨u, h1, h2⟩ := x.get i a e; ⟨u, h1, h2.shift (Shift.bare m) rfl⟩, x.dead, fun a z => x.hid a (m a z)⟩
/-- on with a hidden object p, which is then written -/
theorem Ext.through {r1 r2 : Rho} {H1 H2 : Hp} {p : Addr} {u : HO} (n : H p = none) (x : Ext r H ⟨r1.l, r.hid⟩ H1) (hr : r1.hid = p :: r.hid) (y : Ext r1 H1 r2 H2) : Ext r H ⟨r2.l, r.hid⟩ (upd H2 p u) := by
  have ne : ∀ {a o}, H a = some o → a ≠ p := fun {a o} h e => by subst e; rw [n] at h; cases h
  have has1 : ∀ {a}, r1.has a → r.has a ∨ H a = none := fun {a} m => by
    rcases m with m | m
    · exact x.new a (.inl m)
    · rw [hr] at m
      rcases List.mem_cons.mp m with rfl | m
      · exact .inr n
      · exact .inl (.inr m)
  refine ⟨fun a o h m => ?_, fun a m => ?_, rfl, fun a o m h => ?_, fun i o e => ?_⟩
  · rw [upd_ne (ne h)]
    refine y.keep a o (x.keep a o h m) fun z => ?_
    rcases has1 z with z | z
    · exact m z
    · rw [h] at z; cases z
  · rcases m with m | m
    · rcases y.new a (.inl m) with z | z
      · exact has1 z
      · cases e : H a with
        | none => exact .inr rfl
        | some o =>
          by_cases q : r.has a
          · exact .inl q
          · rw [x.keep a o e q] at z; cases z
    · exact .inl (.inr m)
  · rw [upd_ne (ne h)]
    exact y.hkeep a o (by rw [hr]; exact List.mem_cons_of_mem _ m) (x.hkeep a o m h)
  · rcases x.pre i o e with z | z
    · exact y.pre i o z
    · rcases y.pre i none z with w | w <;> exact .inr w
/-- a hidden object comes out as an open one -/
theorem Ext.out {p : Addr} (n : H p = none) (x : Ext r H r' H') : Ext r H (r'.add p) H' := by
  refine ⟨x.keep, fun a m => ?_, x.hid, x.hkeep, fun i o e => ?_⟩
  · rcases add_has m with m | rfl
    · exact x.new a m
    · exact .inr n
  · have h : ∀ {o}, r'.l[i]? = some o → (r'.add p).l[i]? = some o := fun {o} e => by
      show (r'.l ++ [some p])[i]? = some o
      rw [List.getElem?_append_left (List.getElem?_eq_some_iff.mp e).1]
      exact e
    exact (x.pre i o e).imp h h
theorem Shift.out {p : Addr} {hid : List Addr} (hp : p ∈ r.hid) (h : ∀ a ∈ hid, a ∈ r.hid) : Shift r H (Rho.add ⟨r.l, hid⟩ p) H := by
  refine ⟨fun i o e => ?_, fun _ _ h _ => h, fun a _ m => ?_⟩
  · show (r.l ++ [some p])[i]? = some o
    rw [List.getElem?_append_left (List.getElem?_eq_some_iff.mp e).1]
    exact e
  · rcases add_has m with m | rfl
    · exact m.elim .inl fun m => .inr (h a m)
    · exact .inr hp
/-- a hidden object is written -/
theorem Shift.wrote {p : Addr} {u : HO} (hp : p ∈ r.hid) : Shift r H r (upd H p u) :=
  ⟨fun _ _ h => h, fun a o h n => by rw [upd_ne (fun e => n (by rw [e]; exact .inr hp))]; exact h, fun _ _ m => m⟩
theorem R.side {h : Hd} {p : Addr} {u : HO} (x : R K r h H) (hp : p ∈ r.hid) : R K r h (upd H p u) := by
  refine ⟨x.len, x.inj, fun i a e => ?_, x.dead, fun a m => ⟨upd_some (x.hid a m).1, (x.hid a m).2⟩⟩
  obtain ⟨o, h1, h2⟩ := x.get i a e
  refine ⟨o, h1, h2.shift (Shift.wrote hp) ?_⟩
  rw [upd_ne]
  rintro rfl
  exact (x.hid _ hp).2 (List.mem_iff_getElem?.mpr ⟨i, e⟩)
end

/-! ### the slots -/
abbrev Tau := List (Option D)
structure Slots (K : PySem.W.Frag) (H : Hp) (r : Rho) (σ : L2.St) (t : Tau) : Prop where
  len : σ.length = t.length
  get : ∀ (i : Nat) d, t[i]? = some (some d) → ∃ v, σ[i]? = some (some v) ∧ Rep K H r v d
section
variable {K : PySem.W.Frag} {H H' : Hp} {r r' : Rho} {σ : L2.St} {t : Tau}
theorem Slots.mono (s : Slots K H r σ t) (x : Ext r H r' H') : Slots K H' r' σ t :=
  ⟨s.len, fun i d e => let ⟨v, h1, h2⟩ := s.get i d e; ⟨v, h1, h2.mono x⟩⟩
theorem Slots.set (s : Slots K H r σ t) {v : V} {d : D} (i : Nat) (q : Rep K H r v d) : Slots K H r (σ.set i (some v)) (t.set i (some d)) := by
  refine ⟨by simp [s.len], fun j d' e => ?_⟩
  by_cases hj : j = i
  · subst hj
    have hl : j < t.length := by have := (List.getElem?_eq_some_iff.mp e).1; simpa using this
    rw [List.getElem?_set_self hl] at e
    cases e
    exact ⟨v, by rw [List.getElem?_set_self (by rw [s.len]; exact hl)], q⟩
  · rw [List.getElem?_set_ne (Ne.symm hj)] at e ⊢
    exact s.get j d' e
theorem Slots.shift (s : Slots K H r σ t) (x : Shift r H r' H') : Slots K H' r' σ t :=
  ⟨s.len, fun i d e => let ⟨v, h1, h2⟩ := s.get i d e; ⟨v, h1, h2.shift x⟩⟩
theorem Slots.none (s : Slots K H r σ t) (i : Nat) : Slots K H r (σ.set i none) (t.set i none) := by
  refine ⟨by simp [s.len], fun j d' e => ?_⟩
  by_cases hj : j = i
  · subst hj
    have hl : j < t.length := by have := (List.getElem?_eq_some_iff.mp e).1; simpa using this
    rw [List.getElem?_set_self hl] at e
    cases e
  · rw [List.getElem?_set_ne (Ne.symm hj)] at e ⊢
    exact s.get j d' e
end
end Ev

/-! Ev2: what an evaluation tells (readings of evaluations), operators on data. -/
namespace Ev
open PySem L2

abbrev Calls := Nat → List D → Hd → Res D
/-- an error class: where it stands, its fields -/
structure XC where
  addr : Addr
  fields : List Str
def ExR (K : PySem.W.Frag) (CL : List XC) (H : Hp) (r : Rho) (c : Nat) (fs : List D) (cls : Value) (dd : Option Addr) : Prop :=
  ∃ x vs, CL[c]? = some x ∧ cls = .ref x.addr ∧ RepA K H r vs fs ∧ fs.length = x.fields.length ∧
    ((∃ d, dd = some d ∧ H d = some (.xd (x.fields.zip vs)) ∧ ¬ r.has d) ∨ (dd = none ∧ fs = []))

/-- the relation between what the layer holds and what the evaluation gives -/
abbrev Rl (β α : Type) := Hp → Rho → β → α → Prop
section
variable (K : PySem.W.Frag) (CL : List XC) (W : WX)
abbrev relD : Rl V D := fun H r v d => Rep K H r v d
abbrev relA : Rl (List V) (List D) := fun H r v d => RepA K H r v d
abbrev relB : Rl Bool Bool := fun _ _ v d => v = d
abbrev relU : Rl Unit Unit := fun _ _ _ _ => True
def okK {α β : Type} (rel : Rl β α) (r : Rho) (H : Hp) (Q : β → Hp → Prop) : Res α → Prop
  | .ok d h' => ∀ v r' H', Ext r H r' H' → R K r' h' H' → rel H' r' v d → Q v H'
  | _ => False
def rdK {α β : Type} (rel : Rl β α) (r : Rho) (H : Hp) (σ : L2.St) (Q : β → Hp → Prop) : Res α → Prop
  | .ok d h' => ∀ v r' H', Ext r H r' H' → R K r' h' H' → rel H' r' v d → Q v H'
  | .exn c fs h' => ∀ cls dd r' H', Ext r H r' H' → R K r' h' H' → ExR K CL H' r' c fs cls dd → W cls dd σ H'
  | .stuck => False
def rd {α β : Type} (rel : Rl β α) (c : Calls) (m : Calls → Tau → Hd → Res α) : L2.St → Hp → (β → Hp → Prop) → Prop := fun σ H Q =>
  ∃ r t h, R K r h H ∧ Slots K H r σ t ∧ rdK K CL W rel r H σ Q (m c t h)
end
section
variable {K : PySem.W.Frag} {CL : List XC} {W : WX} {c : Calls}
theorem rdK.ext {α β : Type} {rel : Rl β α} {r r1 : Rho} {H H1 : Hp} {σ : L2.St} {Q : β → Hp → Prop} {x : Res α} (e : Ext r H r1 H1) (q : rdK K CL W rel r H σ Q x) : rdK K CL W rel r1 H1 σ Q x := by
  cases x with
  | ok d h' => exact fun v r' H' a b => q v r' H' (e.trans a) b
  | exn c fs h' => exact fun cls dd r' H' a b => q cls dd r' H' (e.trans a) b
  | stuck => exact q
theorem okK.ext {α β : Type} {rel : Rl β α} {r r1 : Rho} {H H1 : Hp} {Q : β → Hp → Prop} {x : Res α} (e : Ext r H r1 H1) (q : okK K rel r H Q x) : okK K rel r1 H1 Q x := by
  cases x with
  | ok d h' => exact fun v r' H' a b => q v r' H' (e.trans a) b
  | exn c fs h' => exact q
  | stuck => exact q
theorem rd_bind {α β γ δ : Type} {rel1 : Rl γ δ} {rel : Rl β α} {r : Rho} {H : Hp} {h : Hd} {t : Tau} {σ : L2.St} {Q : β → Hp → Prop} {m : Calls → Tau → Hd → Res δ} {k : δ → Hd → Res α}
    (x : R K r h H) (s : Slots K H r σ t) (q : rdK K CL W rel r H σ Q ((m c t h).bind k)) :
    rd K CL W rel1 c m σ H fun v H1 => ∃ r1 h1 d, Ext r H r1 H1 ∧ R K r1 h1 H1 ∧ Slots K H1 r1 σ t ∧ rel1 H1 r1 v d ∧ rdK K CL W rel r1 H1 σ Q (k d h1) := by
  refine ⟨r, t, h, x, s, ?_⟩
  cases e : m c t h with
  | ok d h' =>
    rw [e] at q
    exact fun v r' H' e1 x' rv => ⟨r', h', d, e1, x', s.mono e1, rv, q.ext e1⟩
  | exn c fs h' =>
    rw [e] at q
    exact q
  | stuck =>
    rw [e] at q
    exact q
theorem rd.mono {α β : Type} {rel : Rl β α} {H : Hp} {σ : L2.St} {Q Q' : β → Hp → Prop} {m : Calls → Tau → Hd → Res α} (q : rd K CL W rel c m σ H Q) (i : ∀ v H', Q v H' → Q' v H') : rd K CL W rel c m σ H Q' := by
  obtain ⟨r, t, h, x, s, q⟩ := q
  refine ⟨r, t, h, x, s, ?_⟩
  cases e : m c t h with
  | ok d h' => rw [e] at q; exact fun v r' H' a b k => i _ _ (q v r' H' a b k)
  | exn c fs h' => rw [e] at q; exact q
  | stuck => rw [e] at q; exact q
/-- a value that is told at once -/
theorem rdK.now {α β : Type} {rel : Rl β α} {r : Rho} {H : Hp} {h : Hd} {σ : L2.St} {Q : β → Hp → Prop} {d : α} {v : β} (q : rdK K CL W rel r H σ Q (.ok d h)) (x : R K r h H) (rv : rel H r v d) : Q v H := q v r H (Ext.refl r H) x rv
theorem okK.now {α β : Type} {rel : Rl β α} {r : Rho} {H : Hp} {h : Hd} {Q : β → Hp → Prop} {d : α} {v : β} (q : okK K rel r H Q (.ok d h)) (x : R K r h H) (rv : rel H r v d) : Q v H := q v r H (Ext.refl r H) x rv
theorem rdK.okK {α β : Type} {rel : Rl β α} {r : Rho} {H : Hp} {σ : L2.St} {Q : β → Hp → Prop} {x : Res α} (q : rdK K CL W rel r H σ Q x) (h : ∀ c fs h, x ≠ .exn c fs h) : okK K rel r H Q x := by
  cases x with
  | ok d h' => exact q
  | exn c fs h' => exact (h _ _ _ rfl).elim
  | stuck => exact q
end

/-! ### plain data -/
mutual
def D.plain : D → Bool
  | .ref _ => false
  | .exc _ _ _ _ => false
  | .tup xs => D.plainA xs
  | .lst xs => D.plainA xs
  | .scr xs => D.plainA xs
  | _ => true
def D.plainA : List D → Bool
  | [] => true
  | x :: xs => D.plain x && D.plainA xs
def D.dep : D → Nat
  | .tup xs => D.depA xs + 1
  | .lst xs => D.depA xs + 1
  | .scr xs => D.depA xs + 1
  | _ => 0
def D.depA : List D → Nat
  | [] => 0
  | x :: xs => max (D.dep x) (D.depA xs)
def D.toP : D → PyData
  | .non => .none
  | .bl b => .bool b
  | .int i => .int i
  | .str s => .str ⟨s.toArray⟩
  | .tup xs => .tuple (D.toPA xs)
  | .lst xs => .list (D.toPA xs)
  | .scr xs => .list (D.toPA xs)
  | .ref _ => .none
  | .exc _ _ _ _ => .none
def D.toPA : List D → List PyData
  | [] => []
  | x :: xs => D.toP x :: D.toPA xs
/-- == of plain data -/
def D.eqv : D → D → Bool
  | .non, .non => true
  | .bl a, .bl b => a == b
  | .bl a, .int j => (if a then 1 else 0) == j
  | .int i, .bl b => i == (if b then 1 else 0)
  | .int i, .int j => i == j
  | .str x, .str y => x == y
  | .tup xs, .tup ys => D.eqvA xs ys
  | .lst xs, .lst ys => D.eqvA xs ys
  | .lst xs, .scr ys => D.eqvA xs ys
  | .scr xs, .lst ys => D.eqvA xs ys
  | .scr xs, .scr ys => D.eqvA xs ys
  | _, _ => false
def D.eqvA : List D → List D → Bool
  | [], [] => true
  | x :: xs, y :: ys => D.eqv x y && D.eqvA xs ys
  | _, _ => false
end
mutual
theorem toP_dep : ∀ d : D, d.toP.depth = d.dep
  | .non => by simp [D.toP, D.dep, PyData.depth]
  | .bl b => by simp [D.toP, D.dep, PyData.depth]
  | .int i => by simp [D.toP, D.dep, PyData.depth]
  | .str s => by simp [D.toP, D.dep, PyData.depth]
  | .tup xs => by simp [D.toP, D.dep, PyData.depth, toPA_dep xs]
  | .lst xs => by simp [D.toP, D.dep, PyData.depth, toPA_dep xs]
  | .scr xs => by simp [D.toP, D.dep, PyData.depth, toPA_dep xs]
  | .ref _ => by simp [D.toP, D.dep, PyData.depth]
  | .exc _ _ _ _ => by simp [D.toP, D.dep, PyData.depth]
theorem toPA_dep : ∀ ds : List D, PyData.depthAll (D.toPA ds) = D.depA ds
  | [] => by simp [D.toPA, D.depA, PyData.depthAll]
  | x :: xs => by simp [D.toPA, D.depA, PyData.depthAll, toP_dep x, toPA_dep xs]
end
mutual
theorem toP_eqv : ∀ d e : D, d.plain = true → e.plain = true → PyData.eqv d.toP e.toP = D.eqv d e := by
  intro d e hd he
  cases d with
  | tup xs => cases e with
    | tup ys => simp only [D.toP, D.eqv, PyData.eqv]; exact toPA_eqv xs ys (by simpa [D.plain] using hd) (by simpa [D.plain] using he)
    | ref i => simp [D.plain] at he
    | exc i j k fs => simp [D.plain] at he
    | _ => simp [D.toP, D.eqv, PyData.eqv]
  | lst xs => cases e with
    | lst ys => simp only [D.toP, D.eqv, PyData.eqv]; exact toPA_eqv xs ys (by simpa [D.plain] using hd) (by simpa [D.plain] using he)
    | scr ys => simp only [D.toP, D.eqv, PyData.eqv]; exact toPA_eqv xs ys (by simpa [D.plain] using hd) (by simpa [D.plain] using he)
    | ref i => simp [D.plain] at he
    | exc i j k fs => simp [D.plain] at he
    | _ => simp [D.toP, D.eqv, PyData.eqv]
  | scr xs => cases e with
    | lst ys => simp only [D.toP, D.eqv, PyData.eqv]; exact toPA_eqv xs ys (by simpa [D.plain] using hd) (by simpa [D.plain] using he)
    | scr ys => simp only [D.toP, D.eqv, PyData.eqv]; exact toPA_eqv xs ys (by simpa [D.plain] using hd) (by simpa [D.plain] using he)
    | ref i => simp [D.plain] at he
    | exc i j k fs => simp [D.plain] at he
    | _ => simp [D.toP, D.eqv, PyData.eqv]
  | ref i => simp [D.plain] at hd
  | exc i j k fs => simp [D.plain] at hd
  | str x => cases e with
    | str y =>
      simp only [D.toP, D.eqv, PyData.eqv]
      by_cases q : x = y
      · subst q; simp
      · rw [beq_eq_false_iff_ne.mpr q]
        exact beq_eq_false_iff_ne.mpr fun z => q (by injection z with z; simpa using congrArg Array.toList z)
    | ref i => simp [D.plain] at he
    | exc i j k fs => simp [D.plain] at he
    | _ => simp [D.toP, D.eqv, PyData.eqv]
  | non => cases e with
    | ref i => simp [D.plain] at he
    | exc i j k fs => simp [D.plain] at he
    | _ => simp [D.toP, D.eqv, PyData.eqv]
  | bl b => cases e with
    | ref i => simp [D.plain] at he
    | exc i j k fs => simp [D.plain] at he
    | _ => simp [D.toP, D.eqv, PyData.eqv]
  | int b => cases e with
    | ref i => simp [D.plain] at he
    | exc i j k fs => simp [D.plain] at he
    | _ => simp [D.toP, D.eqv, PyData.eqv]
theorem toPA_eqv : ∀ ds es : List D, D.plainA ds = true → D.plainA es = true → PyData.eqvAll (D.toPA ds) (D.toPA es) = D.eqvA ds es
  | [], [], _, _ => by simp [D.toPA, D.eqvA, PyData.eqvAll]
  | [], _ :: _, _, _ => by simp [D.toPA, D.eqvA, PyData.eqvAll]
  | _ :: _, [], _, _ => by simp [D.toPA, D.eqvA, PyData.eqvAll]
  | x :: xs, y :: ys, h, k => by
    simp only [D.plainA, Bool.and_eq_true] at h k
    simp only [D.toPA, D.eqvA, PyData.eqvAll, toP_eqv x y h.1 k.1, toPA_eqv xs ys h.2 k.2]
end
theorem toPA_map : ∀ ds : List D, D.toPA ds = ds.map D.toP
  | [] => rfl
  | x :: xs => by rw [D.toPA, toPA_map xs]; rfl
theorem plainA_iff : ∀ {ds : List D}, D.plainA ds = true ↔ ∀ d ∈ ds, d.plain = true
  | [] => by simp [D.plainA]
  | x :: xs => by simp [D.plainA, plainA_iff (ds := xs)]
theorem depA_get : ∀ (ds : List D) {j : Nat} (hj : j < ds.length), ds[j].dep ≤ D.depA ds
  | x :: xs, 0, _ => by simp only [D.depA]; exact Nat.le_max_left _ _
  | x :: xs, j + 1, hj => by
    have := depA_get xs (j := j) (by simpa using hj)
    simp only [D.depA]
    exact Nat.le_trans this (Nat.le_max_right _ _)
section
variable {K : PySem.W.Frag} {H : Hp} {r : Rho}
mutual
theorem Rep.dp : ∀ {d : D} {v : V}, Rep K H r v d → d.plain = true → Dp K H v d.toP
  | _, _, .non, _ => by unfold D.toP; exact .non
  | _, _, .bl b, _ => by unfold D.toP; exact .bl b
  | _, _, .int i, _ => by unfold D.toP; exact .int i
  | _, _, .str z h, _ => by unfold D.toP; exact .str z
  | _, _, .tup h k, p => by unfold D.toP; exact .tup h.seq (RepA.dp k (by unfold D.plain at p; exact p))
  | _, _, .lst h k, p => by unfold D.toP; exact .lst h.seq (RepA.dp k (by unfold D.plain at p; exact p))
  | _, _, .scr h k, p => by unfold D.toP; exact .lst h.seq (RepA.dp k (by unfold D.plain at p; exact p))
  | _, _, .ref h, p => by simp [D.plain] at p
  | _, _, .dead h, p => by simp [D.plain] at p
  | _, _, .exc _ _ _ _, p => by simp [D.plain] at p
theorem RepA.dp : ∀ {ds : List D} {vs : List V}, RepA K H r vs ds → D.plainA ds = true → DpAll K H vs (D.toPA ds)
  | _, _, .nil, _ => by unfold D.toPA; exact .nil
  | _, _, .cons h k, p => by
    simp only [D.plainA, Bool.and_eq_true] at p
    unfold D.toPA; exact .cons (Rep.dp h p.1) (RepA.dp k p.2)
end
mutual
theorem Rep.lay : ∀ {d : D} {v : V}, Rep K H r v d → d.toP.canLay0 = true
  | _, _, .non => by simp [D.toP, PyData.canLay0]
  | _, _, .bl b => by simp [D.toP, PyData.canLay0]
  | _, _, .int i => by simp [D.toP, PyData.canLay0]
  | _, _, .str z h => by simpa [D.toP, PyData.canLay0] using h.1
  | _, _, .tup h k => by simpa [D.toP, PyData.canLay0] using RepA.lay k
  | _, _, .lst h k => by simpa [D.toP, PyData.canLay0] using RepA.lay k
  | _, _, .scr h k => by simpa [D.toP, PyData.canLay0] using RepA.lay k
  | _, _, .ref h => by simp [D.toP, PyData.canLay0]
  | _, _, .dead h => by simp [D.toP, PyData.canLay0]
  | _, _, .exc _ _ _ _ => by simp [D.toP, PyData.canLay0]
theorem RepA.lay : ∀ {ds : List D} {vs : List V}, RepA K H r vs ds → PyData.canLayAll0 (D.toPA ds) = true
  | _, _, .nil => by simp [D.toPA, PyData.canLayAll0]
  | _, _, .cons h k => by simp [D.toPA, PyData.canLayAll0, Rep.lay h, RepA.lay k]
end
end

/-! ### operators -/
def D.see (h : Hd) : D → D
  | .ref i => match h[i]? with
    | some (.lst xs) => .lst xs
    | _ => .ref i
  | d => d
/-- a list's items -/
def D.items? (h : Hd) : D → Option (List D)
  | .lst xs => some xs
  | .ref i => match h[i]? with
    | some (.lst xs) => some xs
    | _ => none
  | _ => none
/-- a new list, open or closed -/
def fresh (m : Bool) (xs : List D) (h : Hd) : Res D :=
  if xs.length ≤ sizeLine then (if m then .ok (.ref h.length) (h ++ [.lst xs]) else .ok (.lst xs) h) else .stuck
def freshT (xs : List D) (h : Hd) : Res D := if xs.length ≤ sizeLine then .ok (.tup xs) h else .stuck
def freshS (xs : List Nat) (h : Hd) : Res D := if xs.length ≤ 1000000 then .ok (.str xs) h else .stuck
def near (d e : D) : Bool := decide (d.dep ≤ 500) || decide (e.dep ≤ 500)
def cmpOk (d e : D) : Bool := d.plain && e.plain && near d e
def dAdd (m : Bool) (x y : D) (h : Hd) : Res D :=
  match x, y with
  | .int i, .int j => .ok (.int (i + j)) h
  | .str a, .str b => freshS (a ++ b) h
  | .tup xs, .tup ys => freshT (xs ++ ys) h
  | x, y => match x.items? h, y.items? h with
    | some xs, some ys => fresh m (xs ++ ys) h
    | _, _ => .stuck
def dSub (x y : D) (h : Hd) : Res D :=
  match x, y with
  | .int i, .int j => .ok (.int (i - j)) h
  | _, _ => .stuck
def dMul (m : Bool) (x y : D) (h : Hd) : Res D :=
  match x, y with
  | .int i, .int j => if (-(2 ^ 64) < i ∧ i < 2 ^ 64) ∨ (-(2 ^ 64) < j ∧ j < 2 ^ 64) then .ok (.int (i * j)) h else .stuck
  | x, .int k => match x.items? h with
    | some xs => if k < 2 ^ 62 ∧ -(2 ^ 62) < k ∧ xs.length * k.toNat ≤ sizeLine then fresh m (List.replicate k.toNat xs).flatten h else .stuck
    | _ => .stuck
  | _, _ => .stuck
def dDiv (x y : D) (h : Hd) : Res D :=
  match x, y with
  | .int i, .int j => if 0 < j ∧ j < 2 ^ 64 then .ok (.int (i / j)) h else .stuck
  | _, _ => .stuck
def dMod (x y : D) (h : Hd) : Res D :=
  match x, y with
  | .int i, .int j => if 0 < j then .ok (.int (i % j)) h else .stuck
  | _, _ => .stuck
def dPow (x y : D) (h : Hd) : Res D :=
  match x, y with
  | .int i, .int j => if 0 ≤ j ∧ j ≤ 1000 ∧ -(2 ^ 63) < i ∧ i < 2 ^ 63 then .ok (.int (i ^ j.toNat)) h else .stuck
  | _, _ => .stuck
def dEq (n : Bool) (x y : D) (h : Hd) : Res D :=
  if cmpOk (x.see h) (y.see h) then .ok (.bl (n != D.eqv (x.see h) (y.see h))) h else .stuck
def dCmp (f : Int → Int → Bool) (g : List Nat → List Nat → Bool) (x y : D) (h : Hd) : Res D :=
  match x, y with
  | .int i, .int j => .ok (.bl (f i j)) h
  | .str i, .str j => .ok (.bl (g i j)) h
  | _, _ => .stuck
abbrev dLt : D → D → Hd → Res D := dCmp (fun i j => decide (i < j)) fun a b => decide (a < b)
abbrev dLe : D → D → Hd → Res D := dCmp (fun i j => decide (i ≤ j)) fun a b => !decide (b < a)
abbrev dGt : D → D → Hd → Res D := dCmp (fun i j => decide (j < i)) fun a b => decide (b < a)
abbrev dGe : D → D → Hd → Res D := dCmp (fun i j => decide (j ≤ i)) fun a b => !decide (a < b)
def D.has (xs : List D) (d : D) : Bool := xs.any fun y => D.eqv y d
/-- dicts: the keys ints, texts -/
def D.dict? (h : Hd) : D → Option (List (D × D))
  | .ref i => match h[i]? with
    | some (.dict es) => some es
    | _ => none
  | _ => none
def keyOk : D → Bool
  | .int _ => true
  | .str _ => true
  | _ => false
def getD (es : List (D × D)) (k : D) : Option D := (es.find? fun p => D.eqv p.1 k).map (·.2)
def putD (es : List (D × D)) (k v : D) : List (D × D) := if (es.any fun p => D.eqv p.1 k) = true then es.map fun p => if D.eqv p.1 k = true then (p.1, v) else p else es ++ [(k, v)]
def dInS (n : Bool) (x y : D) (h : Hd) : Res D :=
  match y.see h with
  | .lst ys => if cmpOk x (.lst ys) then .ok (.bl (n != D.has ys x)) h else .stuck
  | .scr ys => if cmpOk x (.scr ys) then .ok (.bl (n != D.has ys x)) h else .stuck
  | .tup ys => if cmpOk x (.tup ys) then .ok (.bl (n != D.has ys x)) h else .stuck
  | .str s => match x with
    | .str [ch] => .ok (.bl (n != decide (ch ∈ s))) h
    | _ => .stuck
  | _ => .stuck
def dIn (n : Bool) (x y : D) (h : Hd) : Res D :=
  match y.dict? h with
  | some es => if keyOk x then .ok (.bl (n != (getD es x).isSome)) h else .stuck
  | none => dInS n x y h
def D.isNon? : D → Option Bool
  | .non => some true
  | .ref _ => none
  | _ => some false
def dIsN (n : Bool) (x : D) (h : Hd) : Res D :=
  match x with
  | .non => .ok (.bl (!n)) h
  | .ref i => match h[i]? with
    | some (.lst _) => .ok (.bl n) h
    | some (.dict _) => .ok (.bl n) h
    | _ => .stuck
  | _ => .ok (.bl n) h

/-- an operator of two data as the layer reads it -/
def opR (K : PySem.W.Frag) (f : D → D → Hd → Res D) : R2 := fun x y H Q => ∃ r h d e, R K r h H ∧ Rep K H r x d ∧ Rep K H r y e ∧ okK K (relD K) r H Q (f d e h)
end Ev

/-! Ev3: operators, shown over the layer. -/
namespace Ev
open PySem L2
section
variable {X : Cx}
theorem rep_str {K : PySem.W.Frag} {H : Hp} {r : Rho} {v : V} {s : List Nat} (h : Rep K H r v (.str s)) : ∃ x : Str, v = .str x ∧ x.cps.toList = s ∧ SOk x := by
  cases h with
  | str x ok => exact ⟨x, rfl, rfl, ok⟩
theorem rep_int {K : PySem.W.Frag} {H : Hp} {r : Rho} {v : V} {i : Int} (h : Rep K H r v (.int i)) : v = .int i := by
  cases h; rfl
theorem rep_bl {K : PySem.W.Frag} {H : Hp} {r : Rho} {v : V} {i : Bool} (h : Rep K H r v (.bl i)) : v = .bl i := by
  cases h; rfl
theorem strOk_append {a b : Str} (ha : PySem.PyData.strOk a = true) (hb : PySem.PyData.strOk b = true) : PySem.PyData.strOk (a ++ b) = true := by
  have e : (a ++ b).cps = a.cps ++ b.cps := rfl
  unfold PySem.PyData.strOk at ha hb ⊢
  rw [e, Array.all_append, ha, hb]; rfl
/-- a list's place: closed or open -/
theorem items_at {K : PySem.W.Frag} {H : Hp} {r : Rho} {h : Hd} {v : V} {d : D} {xs : List D} (x : R K r h H) (q : Rep K H r v d) (e : d.items? h = some xs) : ∃ a vs, v = .ref a ∧ H a = some (.lst vs) ∧ RepA K H r vs xs := by
  cases q with
  | lst f k => unfold D.items? at e; cases e; exact ⟨_, _, rfl, f.1, k⟩
  | @ref a i f =>
    obtain ⟨o, h1, h2⟩ := x.get _ _ f
    unfold D.items? at e
    simp only [h1] at e
    cases o with
    | lst ds => cases e; obtain ⟨vs, h3, h4⟩ := h2; exact ⟨_, _, rfl, h3, h4⟩
    | dict es => cases e
    | dead => cases e
  | dead f =>
    have h1 := x.dead _ f
    unfold D.items? at e
    simp only [h1] at e
    cases e
  | _ => unfold D.items? at e; cases e
/-- what is seen of a value -/
theorem see_rep {K : PySem.W.Frag} {H : Hp} {r : Rho} {h : Hd} {v : V} {d : D} (x : R K r h H) (q : Rep K H r v d) (p : (d.see h).plain = true) : Dp K H v (d.see h).toP ∧ (d.see h).toP.canLay0 = true := by
  cases d with
  | ref i =>
    have se : (D.ref i).see h = match h[i]? with | some (.lst xs) => D.lst xs | _ => D.ref i := rfl
    rw [se] at p ⊢
    cases e : h[i]? with
    | none => rw [e] at p; simp [D.plain] at p
    | some o =>
      rw [e] at p
      cases o with
      | lst xs =>
        have p : (D.lst xs).plain = true := p
        show Dp K H v (D.lst xs).toP ∧ (D.lst xs).toP.canLay0 = true
        obtain ⟨a, vs, rfl, h1, h2⟩ := items_at x q (xs := xs) (by unfold D.items?; simp only [e])
        simp only [D.toP]
        refine ⟨.lst (.inl (.inl h1)) (h2.dp (by simpa [D.plain] using p)), ?_⟩
        simpa [PyData.canLay0] using h2.lay
      | dict es => simp [D.plain] at p
      | dead => simp [D.plain] at p
  | _ => exact ⟨q.dp p, q.lay⟩

/-- a new closed list -/
theorem new_shut {r : Rho} {h : Hd} {H : Hp} {Q : VK} {xs : List D} {vs : List V} {p : Addr} {m : Bool} {K : PySem.W.Frag} (x : R K r h H) (k : RepA K H r vs xs) (q : okK K (relD K) r H Q (fresh m xs h)) (n : H p = none) : Q (.ref p) (upd H p (.lst vs)) := by
  unfold fresh at q
  by_cases hz : xs.length ≤ sizeLine
  · rw [if_pos hz] at q
    cases m with
    | false =>
      rw [if_neg (by decide)] at q
      exact q _ r _ (Ext.laid n) (x.laid n) (.lst ⟨upd_same, x.fresh n⟩ (k.mono (Ext.laid n)))
    | true =>
      rw [if_pos rfl] at q
      refine q _ (r.add p) _ (Ext.push n) (x.push n ⟨vs, upd_same, k.mono (Ext.push n)⟩) (.ref ?_)
      rw [← x.len, List.getElem?_append_right (Nat.le_refl _)]; simp
  · rw [if_neg hz] at q; exact q.elim
theorem fresh_len {r : Rho} {h : Hd} {H : Hp} {Q : VK} {xs : List D} {m : Bool} {K : PySem.W.Frag} (q : okK K (relD K) r H Q (fresh m xs h)) : xs.length ≤ sizeLine := by
  unfold fresh at q
  by_cases hz : xs.length ≤ sizeLine
  · exact hz
  · rw [if_neg hz] at q; exact q.elim
theorem new_tup {r : Rho} {h : Hd} {H : Hp} {Q : VK} {xs : List D} {vs : List V} {p : Addr} {ob : Obj} {K : PySem.W.Frag} (x : R K r h H) (k : RepA K H r vs xs) (q : okK K (relD K) r H Q (freshT xs h)) (n : H p = none) (d : PlainT ob) :
    Q (.ref p) (upd H p (.frz ob (.tup vs))) := by
  unfold freshT at q
  by_cases hz : xs.length ≤ sizeLine
  · rw [if_pos hz] at q
    exact q _ r _ (Ext.laid n) (x.laid n) (.tup (.inl ⟨ob, upd_same, d, x.fresh n⟩) (k.mono (Ext.laid n)))
  · rw [if_neg hz] at q; exact q.elim
/-- a new tuple's object -/
theorem tup_laid {pins : List (Addr × Obj)} {σ : L2.St} {H : Hp} {s : Shared} {vs : List V} {its : List Value} {t' : Nat} (I : Inv X pins σ H s) (rv : Vals vs its) (hz : vs.length ≤ sizeLine) :
    Inv X pins σ (upd H s.heap.objs.size (.frz { cls := .type "tuple", data := .seq its.toArray } (.tup vs))) { s with heap := s.heap.push { cls := .type "tuple", data := .seq its.toArray }, toks := t' } :=
  I.laid (t' := t') (fun b ob q => Heap.get?_push_of_some _ q) (Nat.le_refl _) ⟨Heap.get?_push_size _ rfl, hz, its, rv, PyProof.Rows.IsTup.new _ _⟩
theorem freshT_len {r : Rho} {h : Hd} {H : Hp} {Q : VK} {xs : List D} {K : PySem.W.Frag} (q : okK K (relD K) r H Q (freshT xs h)) : xs.length ≤ sizeLine := by
  unfold freshT at q
  by_cases hz : xs.length ≤ sizeLine
  · exact hz
  · rw [if_neg hz] at q; exact q.elim
theorem ok_of {α β : Type} {K : PySem.W.Frag} {rel : Rl β α} {r : Rho} {H : Hp} {Q : β → Hp → Prop} {c : Prop} [Decidable c] {y : Res α} (q : okK K rel r H Q (if c then y else .stuck)) : c ∧ okK K rel r H Q y := by
  by_cases h : c
  · rw [if_pos h] at q; exact ⟨h, q⟩
  · rw [if_neg h] at q; exact q.elim

theorem op_addE {m : Bool} : OpR X (binaryOp .Add) (opR X.K (dAdd m)) := by
  intro pins s σ H x y v u Q I rx ry h
  obtain ⟨r, h, d, e, Y, hd, he, q⟩ := h
  have lists : ∀ xs ys, d.items? h = some xs → e.items? h = some ys → okK X.K (relD X.K) r H Q (fresh m (xs ++ ys) h) → wpAny (model X.prog X.w) X.A (binaryOp .Add v u) (EP X pins σ Q) X.xe s := by
    intro xs ys e1 e2 q
    obtain ⟨a, vs, rfl, h1, k1⟩ := items_at Y hd e1
    obtain ⟨b, us, rfl, h2, k2⟩ := items_at Y he e2
    have hz := fresh_len q
    rw [List.length_append] at hz
    exact op_cat pins s σ H _ _ v u Q I rx ry ⟨a, b, vs, us, rfl, rfl, h1, h2, by rw [k1.len, k2.len]; exact hz, fun p n => new_shut Y (k1.app k2) q n⟩
  unfold dAdd at q
  split at q
  · cases hd; cases he
    exact op_add pins s σ H _ _ v u Q I rx ry ⟨_, _, rfl, rfl, q.now Y (.int _)⟩
  · obtain ⟨x, rfl, rfl, ox⟩ := rep_str hd
    obtain ⟨y, rfl, rfl, oy⟩ := rep_str he
    unfold freshS at q
    obtain ⟨hz, q⟩ := ok_of q
    refine op_add_str pins s σ H _ _ v u Q I rx ry ⟨_, _, rfl, rfl, ?_, q.now Y ?_⟩
    · have e1 : x.length = x.cps.toList.length := by rw [Array.length_toList]; rfl
      have e2 : y.length = y.cps.toList.length := by rw [Array.length_toList]; rfl
      rw [List.length_append] at hz
      rw [e1, e2, sizeLine_eq]; omega
    · have e : (x ++ y).cps.toList = x.cps.toList ++ y.cps.toList := by
        show (x.cps ++ y.cps).toList = _
        rw [Array.toList_append]
      show Rep X.K H r (.str (x ++ y)) (.str (x.cps.toList ++ y.cps.toList))
      rw [← e]
      refine .str _ ⟨strOk_append ox.1 oy.1, ?_⟩
      have e3 : (x ++ y).cps.size = (x ++ y).cps.toList.length := by rw [Array.length_toList]
      rw [e3, e]; exact hz
  · cases hd with
    | @tup a vs _ f k =>
      cases he with
      | @tup b us _ g l =>
        have hz := freshT_len q
        rw [List.length_append] at hz
        have kl := k.len
        have ll := l.len
        cases rx
        cases ry
        obtain ⟨its, r1, p1, _⟩ := I.tuple f.seq
        obtain ⟨its2, r2, p2, _⟩ := I.tuple g.seq
        by_cases hx : vs = []
        · subst hx
          cases k
          cases r1
          refine L2.cat_tup0 p1 p2 ⟨.ref b, H, I, rfl, ?_⟩
          unfold freshT at q
          rw [if_pos (by simpa using hz)] at q
          exact q.now Y (.tup g l)
        · refine HT.cat_tup p1 p2 (fun z => hx (r1.nil_iff.mp z)) (fun z => ⟨.ref a, H, I, rfl, ?_⟩) (fun z => ?_) (by rw [← r1.length, ← r2.length]; omega)
          · have hu := r2.nil_iff.mp z
            subst hu
            cases l
            unfold freshT at q
            rw [if_pos (by simpa using hz), List.append_nil] at q
            exact q.now Y (.tup f k)
          · exact ⟨.ref _, _, tup_laid (t' := s.toks) I (r1.append r2) (by rw [List.length_append]; omega), rfl, new_tup Y (k.app l) q (I.hok.fresh (Nat.le_refl _)) ⟨_, _, rfl⟩⟩
  · split at q
    · rename_i xs ys e1 e2
      exact lists xs ys e1 e2 q
    · exact q.elim
theorem op_subE : OpR X (binaryOp .Sub) (opR X.K dSub) := by
  intro pins s σ H x y v u Q I rx ry h
  obtain ⟨r, h, d, e, Y, hd, he, q⟩ := h
  unfold dSub at q
  split at q
  · cases hd; cases he
    exact op_sub pins s σ H _ _ v u Q I rx ry ⟨_, _, rfl, rfl, q.now Y (.int _)⟩
  · exact q.elim
theorem op_mulE {m : Bool} : OpR X (binaryOp .Mult) (opR X.K (dMul m)) := by
  intro pins s σ H x y v u Q I rx ry h
  obtain ⟨r, h, d, e, Y, hd, he, q⟩ := h
  unfold dMul at q
  split at q
  · cases hd; cases he
    obtain ⟨c, q⟩ := ok_of q
    exact op_mul pins s σ H _ _ v u Q I rx ry ⟨_, _, rfl, rfl, c, q.now Y (.int _)⟩
  · cases he
    split at q
    · rename_i xs e1
      obtain ⟨⟨c1, c2, c3⟩, q⟩ := ok_of q
      obtain ⟨a, vs, rfl, h1, k1⟩ := items_at Y hd e1
      refine op_rep pins s σ H _ _ v u Q I rx ry ⟨a, _, vs, rfl, rfl, h1, by omega, by omega, by rw [k1.len]; exact c3, fun p n => new_shut Y ?_ q n⟩
      have rep : ∀ n : Nat, RepA X.K H r (List.replicate n vs).flatten (List.replicate n xs).flatten := fun n => by
        induction n with
        | zero => exact .nil
        | succ n ih => rw [List.replicate_succ, List.replicate_succ, List.flatten_cons, List.flatten_cons]; exact k1.app ih
      exact rep _
    · exact q.elim
  · exact q.elim
theorem op_divE : OpR X (binaryOp .FloorDiv) (opR X.K dDiv) := by
  intro pins s σ H x y v u Q I rx ry h
  obtain ⟨r, h, d, e, Y, hd, he, q⟩ := h
  unfold dDiv at q
  split at q
  · rename_i i j
    cases hd; cases he
    obtain ⟨c, q⟩ := ok_of q
    exact op_fdivW pins s σ H _ _ v u Q I rx ry ⟨i, j, rfl, rfl, wide_div c.1 (show j.natAbs < 2 ^ 64 by have := c.2; omega) (by decide) (by decide), q.now Y (.int _)⟩
  · exact q.elim
theorem op_modE : OpR X (binaryOp .Mod) (opR X.K dMod) := by
  intro pins s σ H x y v u Q I rx ry h
  obtain ⟨r, h, d, e, Y, hd, he, q⟩ := h
  unfold dMod at q
  split at q
  · cases hd; cases he
    obtain ⟨c, q⟩ := ok_of q
    exact op_mod pins s σ H _ _ v u Q I rx ry ⟨_, _, rfl, rfl, c, q.now Y (.int _)⟩
  · exact q.elim
theorem op_powE : OpR X (binaryOp .Pow) (opR X.K dPow) := by
  intro pins s σ H x y v u Q I rx ry h
  obtain ⟨r, h, d, e, Y, hd, he, q⟩ := h
  unfold dPow at q
  split at q
  · cases hd; cases he
    obtain ⟨c, q⟩ := ok_of q
    exact op_pow pins s σ H _ _ v u Q I rx ry ⟨_, _, rfl, rfl, ⟨c.1, by omega, by omega⟩, q.now Y (.int _)⟩
  · exact q.elim

theorem near_room {d e : D} (h : near d e = true) : min d.toP.depth e.toP.depth ≤ 500 := by
  unfold near at h
  rw [Bool.or_eq_true] at h
  rw [toP_dep, toP_dep]
  rcases h with h | h
  · have := of_decide_eq_true h; omega
  · have := of_decide_eq_true h; omega
theorem cmpOk_parts {d e : D} (h : cmpOk d e = true) : d.plain = true ∧ e.plain = true ∧ near d e = true := by
  unfold cmpOk at h
  rw [Bool.and_eq_true, Bool.and_eq_true] at h
  exact ⟨h.1.1, h.1.2, h.2⟩
theorem op_eqE (hu : X.A.units + 560 < cLine) : OpR X (compareOp .Eq) (opR X.K (dEq false)) := by
  intro pins s σ H x y v u Q I rx ry h
  obtain ⟨r, h, d, e, Y, hd, he, q⟩ := h
  unfold dEq at q
  obtain ⟨c, q⟩ := ok_of q
  obtain ⟨p1, p2, nr⟩ := cmpOk_parts c
  obtain ⟨a1, l1⟩ := see_rep Y hd p1
  obtain ⟨a2, l2⟩ := see_rep Y he p2
  obtain ⟨as, r1⟩ := Dp.reads I _ _ _ a1 rx
  obtain ⟨bs, r2⟩ := Dp.reads I _ _ _ a2 ry
  have hn := near_room nr
  refine SeqAt.compareEq_reads r1 r2 l1 l2 (by omega) ⟨.bl _, H, I, rfl, ?_⟩
  rw [toP_eqv _ _ p1 p2]
  have z : (false != D.eqv (d.see h) (e.see h)) = D.eqv (d.see h) (e.see h) := by cases D.eqv (d.see h) (e.see h) <;> rfl
  rw [z] at q
  exact q.now Y (.bl _)
theorem op_neE (hu : X.A.units + 560 < cLine) : OpR X (compareOp .NotEq) (opR X.K (dEq true)) := by
  intro pins s σ H x y v u Q I rx ry h
  obtain ⟨r, h, d, e, Y, hd, he, q⟩ := h
  unfold dEq at q
  obtain ⟨c, q⟩ := ok_of q
  obtain ⟨p1, p2, nr⟩ := cmpOk_parts c
  obtain ⟨a1, l1⟩ := see_rep Y hd p1
  obtain ⟨a2, l2⟩ := see_rep Y he p2
  obtain ⟨as, r1⟩ := Dp.reads I _ _ _ a1 rx
  obtain ⟨bs, r2⟩ := Dp.reads I _ _ _ a2 ry
  have hn := near_room nr
  refine SeqAt.compareNe_reads r1 r2 l1 l2 (by omega) ⟨.bl _, H, I, rfl, ?_⟩
  rw [toP_eqv _ _ p1 p2]
  have z : (true != D.eqv (d.see h) (e.see h)) = !D.eqv (d.see h) (e.see h) := by cases D.eqv (d.see h) (e.see h) <;> rfl
  rw [z] at q
  exact q.now Y (.bl _)
theorem op_cmpE {op : CmpOp} {f : Int → Int → Bool} {g : List Nat → List Nat → Bool} (h1 : OpR X (compareOp op) (rI0 fun i j => .bl (f i j)))
    (h2 : OpR X (compareOp op) (fun x y H Q => ∃ i j : Str, x = .str i ∧ y = .str j ∧ Q (.bl (g i.cps.toList j.cps.toList)) H)) : OpR X (compareOp op) (opR X.K (dCmp f g)) := by
  intro pins s σ H x y v u Q I rx ry h
  obtain ⟨r, h, d, e, Y, hd, he, q⟩ := h
  unfold dCmp at q
  split at q
  · cases hd; cases he
    exact h1 pins s σ H _ _ v u Q I rx ry ⟨_, _, rfl, rfl, q.now Y (.bl _)⟩
  · obtain ⟨x, rfl, rfl, ox⟩ := rep_str hd
    obtain ⟨y, rfl, rfl, oy⟩ := rep_str he
    exact h2 pins s σ H _ _ v u Q I rx ry ⟨_, _, rfl, rfl, q.now Y (.bl _)⟩
  · exact q.elim
theorem op_ltE : OpR X (compareOp .Lt) (opR X.K dLt) := op_cmpE op_lt op_lt_str
theorem op_leE : OpR X (compareOp .LtE) (opR X.K dLe) := op_cmpE op_le op_le_str
theorem op_gtE : OpR X (compareOp .Gt) (opR X.K dGt) := op_cmpE op_gt op_gt_str
theorem op_geE : OpR X (compareOp .GtE) (opR X.K dGe) := op_cmpE op_ge op_ge_str

theorem has_toP {d : D} (hd : d.plain = true) : ∀ {xs : List D}, D.plainA xs = true → ((D.toPA xs).any fun y => PyData.eqv y d.toP) = D.has xs d
  | [], _ => by simp [D.toPA, D.has]
  | x :: xs, h => by
    simp only [D.plainA, Bool.and_eq_true] at h
    have ih := has_toP hd h.2
    simp only [D.toPA, D.has, List.any_cons, toP_eqv x d h.1 hd]
    unfold D.has at ih
    rw [ih]
theorem room_in {d : D} {ys : List D} {A : Around} (hu : A.units + 560 < cLine) (hn : min d.toP.depth (D.depA ys + 1) ≤ 500) : A.units + 1 + min (PyData.depthAll (D.toPA ys)) d.toP.depth < cLine := by
  rw [toPA_dep]; omega
theorem see_eq_ref {h : Hd} {d : D} {ys : List D} (e : d.see h = .lst ys) : d.items? h = some ys := by
  cases d with
  | ref i =>
    have se : (D.ref i).see h = match h[i]? with | some (.lst xs) => D.lst xs | _ => D.ref i := rfl
    rw [se] at e
    unfold D.items?
    cases q : h[i]? with
    | none => rw [q] at e; cases e
    | some o =>
      rw [q] at e
      cases o with
      | lst xs => cases e; simp only [q]
      | dict es => cases e
      | dead => cases e
  | lst xs => unfold D.see at e; cases e; rfl
  | _ => unfold D.see at e; cases e
theorem op_inS {n : Bool} (hu : X.A.units + 560 < cLine) : OpR X (compareOp (if n then .NotIn else .In)) (opR X.K (dInS n)) := by
  intro pins s σ H x y v u Q I rx ry h
  obtain ⟨r, h, d, e, Y, hd, he, q⟩ := h
  have listy : ∀ ys, cmpOk d (.lst ys) = true ∨ cmpOk d (.scr ys) = true → Dp X.K H y (.list (D.toPA ys)) → PyData.canLayAll0 (D.toPA ys) = true → okK X.K (relD X.K) r H Q (.ok (.bl (n != D.has ys d)) h) → wpAny (model X.prog X.w) X.A (compareOp (if n then .NotIn else .In) v u) (EP X pins σ Q) X.xe s := by
    intro ys c a2 l2 q
    have c' : d.plain = true ∧ D.plainA ys = true ∧ min d.toP.depth (D.depA ys + 1) ≤ 500 := by
      rcases c with c | c
      · obtain ⟨p1, p2, nr⟩ := cmpOk_parts c
        have hn := near_room nr
        rw [toP_dep (.lst ys)] at hn
        simp only [D.dep] at hn
        exact ⟨p1, by simpa [D.plain] using p2, hn⟩
      · obtain ⟨p1, p2, nr⟩ := cmpOk_parts c
        have hn := near_room nr
        rw [toP_dep (.scr ys)] at hn
        simp only [D.dep] at hn
        exact ⟨p1, by simpa [D.plain] using p2, hn⟩
    obtain ⟨p1, p2, hn⟩ := c'
    obtain ⟨as, r1⟩ := Dp.reads I _ _ _ (hd.dp p1) rx
    obtain ⟨bs, r2⟩ := Dp.reads I _ _ _ a2 ry
    have hr := room_in hu hn
    cases n with
    | false =>
      refine SeqAt.in_list_reads r2 r1 l2 hd.lay hr ⟨.bl _, H, I, rfl, ?_⟩
      rw [has_toP p1 p2]
      have z : (false != D.has ys d) = D.has ys d := by cases D.has ys d <;> rfl
      rw [z] at q
      exact q.now Y (.bl _)
    | true =>
      refine SeqAt.notIn_list_reads r2 r1 l2 hd.lay hr ⟨.bl _, H, I, rfl, ?_⟩
      rw [has_toP p1 p2]
      have z : (true != D.has ys d) = !D.has ys d := by cases D.has ys d <;> rfl
      rw [z] at q
      exact q.now Y (.bl _)
  unfold dInS at q
  split at q
  · rename_i ys ee
    obtain ⟨c, q⟩ := ok_of q
    have p2 : D.plainA ys = true := by simpa [D.plain] using (cmpOk_parts c).2.1
    obtain ⟨a, vs, rfl, h1, k1⟩ := items_at Y he (see_eq_ref ee)
    exact listy ys (.inl c) (.lst (.inl (.inl h1)) (k1.dp p2)) k1.lay q
  · rename_i ys ee
    obtain ⟨c, q⟩ := ok_of q
    have p2 : D.plainA ys = true := by simpa [D.plain] using (cmpOk_parts c).2.1
    have es : e = .scr ys := by
      cases e with
      | ref i =>
        have se : (D.ref i).see h = match h[i]? with | some (.lst xs) => D.lst xs | _ => D.ref i := rfl
        rw [se] at ee
        split at ee <;> cases ee
      | _ => exact ee
    subst es
    cases he with
    | scr f k => exact listy ys (.inr c) (.lst f.seq (k.dp p2)) k.lay q
  · rename_i ys ee
    obtain ⟨c, q⟩ := ok_of q
    obtain ⟨p1, p2, nr⟩ := cmpOk_parts c
    have p2' : D.plainA ys = true := by simpa [D.plain] using p2
    have hn := near_room nr
    rw [toP_dep (.tup ys)] at hn
    simp only [D.dep] at hn
    have es : e = .tup ys := by
      cases e with
      | ref i =>
        have se : (D.ref i).see h = match h[i]? with | some (.lst xs) => D.lst xs | _ => D.ref i := rfl
        rw [se] at ee
        split at ee <;> cases ee
      | _ => exact ee
    subst es
    cases he with
    | tup f k =>
      obtain ⟨as, r1⟩ := Dp.reads I _ _ _ (hd.dp p1) rx
      obtain ⟨bs, r2⟩ := Dp.reads I (.tuple (D.toPA ys)) _ _ (.tup f.seq (k.dp p2')) ry
      have hr := room_in hu hn
      cases n with
      | false =>
        refine SeqAt.in_tuple_reads r2 r1 k.lay hd.lay hr ⟨.bl _, H, I, rfl, ?_⟩
        rw [has_toP p1 p2']
        have z : (false != D.has ys d) = D.has ys d := by cases D.has ys d <;> rfl
        rw [z] at q
        exact q.now Y (.bl _)
      | true =>
        refine SeqAt.notIn_tuple_reads r2 r1 k.lay hd.lay hr ⟨.bl _, H, I, rfl, ?_⟩
        rw [has_toP p1 p2']
        have z : (true != D.has ys d) = !D.has ys d := by cases D.has ys d <;> rfl
        rw [z] at q
        exact q.now Y (.bl _)
  · rename_i ss ee
    have es : e = .str ss := by
      cases e with
      | ref i =>
        have se : (D.ref i).see h = match h[i]? with | some (.lst xs) => D.lst xs | _ => D.ref i := rfl
        rw [se] at ee
        split at ee <;> cases ee
      | _ => exact ee
    subst es
    split at q
    · rename_i ch
      obtain ⟨x1, rfl, e1, ox⟩ := rep_str hd
      obtain ⟨y1, rfl, e2, oy⟩ := rep_str he
      have ex : x1 = ⟨#[ch]⟩ := by
        obtain ⟨cs⟩ := x1
        simp only at e1
        congr 1
        apply Array.toList_inj.mp
        simpa using e1
      subst ex
      cases n with
      | false =>
        refine op_in_sign pins s σ H _ _ v u Q I rx ry ⟨ch, y1, rfl, rfl, ?_⟩
        rw [e2]
        have z : (false != decide (ch ∈ ss)) = decide (ch ∈ ss) := by cases decide (ch ∈ ss) <;> rfl
        rw [z] at q
        exact q.now Y (.bl _)
      | true =>
        refine op_notIn_sign pins s σ H _ _ v u Q I rx ry ⟨ch, y1, rfl, rfl, ?_⟩
        rw [e2]
        have z : (true != decide (ch ∈ ss)) = !decide (ch ∈ ss) := by cases decide (ch ∈ ss) <;> rfl
        rw [z] at q
        exact q.now Y (.bl _)
    · exact q.elim
  · exact q.elim
/-! dicts with ints and texts as keys -/
theorem keyD_eqv (a b : Key) : D.eqv (KeyD a) (KeyD b) = decide (a = b) := by
  cases a with
  | inl i =>
    cases b with
    | inl j =>
      simp only [KeyD, D.eqv]
      by_cases e : i = j
      · subst e; simp
      · rw [beq_eq_false_iff_ne.mpr e, decide_eq_false fun z => e (Sum.inl.inj z)]
    | inr y => simp [KeyD, D.eqv]
  | inr x =>
    cases b with
    | inl j => simp [KeyD, D.eqv]
    | inr y =>
      simp only [KeyD, D.eqv]
      by_cases e : x = y
      · subst e; simp
      · rw [decide_eq_false fun z => e (Sum.inr.inj z)]
        refine beq_eq_false_iff_ne.mpr fun z => e ?_
        obtain ⟨x⟩ := x
        obtain ⟨y⟩ := y
        congr 1
        exact Array.toList_inj.mp z
theorem key_rep {K : PySem.W.Frag} {H : Hp} {r : Rho} {v : V} {d : D} (q : Rep K H r v d) (e : keyOk d = true) : ∃ k : Key, v = kV k ∧ d = KeyD k ∧ KeyOk k := by
  cases d with
  | int i => cases q; exact ⟨.inl i, rfl, rfl, trivial⟩
  | str s => obtain ⟨x, rfl, rfl, ok⟩ := rep_str q; exact ⟨.inr x, rfl, rfl, ok⟩
  | _ => cases e
theorem val_rep {K : PySem.W.Frag} {H : Hp} {r : Rho} {k : Key} : ∀ {es : List (D × D)} {kvs : List (Key × V)}, RepK K H r kvs es →
    (∀ d, getD es (KeyD k) = some d → ∃ v, valV kvs k = some v ∧ Rep K H r v d) ∧ (getD es (KeyD k) = none → valV kvs k = none)
  | _, _, .nil => ⟨fun _ e => by simp [getD] at e, fun _ => rfl⟩
  | _, _, .cons (k := k0) (v := v) (d := d0) (kvs := kvs) (es := es) h q l => by
    obtain ⟨i1, i2⟩ := val_rep (k := k) l
    by_cases e : k0 = k
    · subst e
      refine ⟨fun d e => ?_, fun e => ?_⟩
      · simp only [getD, List.find?_cons, keyD_eqv, decide_true, Option.map_some] at e
        cases e
        exact ⟨v, valV_pos rfl, q⟩
      · simp [getD, List.find?_cons, keyD_eqv] at e
    · have g : getD ((KeyD k0, d0) :: es) (KeyD k) = getD es (KeyD k) := by
        simp only [getD, List.find?_cons, keyD_eqv, decide_eq_false e]
      have g2 : valV ((k0, v) :: kvs) k = valV kvs k := by simp [valV, List.find?_cons, e]
      rw [g, g2]
      exact ⟨i1, i2⟩
theorem any_rep {K : PySem.W.Frag} {H : Hp} {r : Rho} {k : Key} : ∀ {es : List (D × D)} {kvs : List (Key × V)}, RepK K H r kvs es → (es.any fun p => D.eqv p.1 (KeyD k)) = kvs.any fun kv => decide (kv.1 = k)
  | _, _, .nil => rfl
  | _, _, .cons h q l => by simp only [List.any_cons, keyD_eqv, any_rep l]
theorem put_rep {K : PySem.W.Frag} {H : Hp} {r : Rho} {k : Key} {v : V} {d : D} (ok : KeyOk k) (rv : Rep K H r v d) {es : List (D × D)} {kvs : List (Key × V)} (l : RepK K H r kvs es) : RepK K H r (putK kvs k v) (putD es (KeyD k) d) := by
  unfold putK putD
  rw [any_rep l]
  by_cases c : (kvs.any fun kv => decide (kv.1 = k)) = true
  · rw [if_pos c, if_pos c]
    clear c
    induction l with
    | nil => exact .nil
    | @cons k0 v0 d0 kvs es h q l ih =>
      simp only [List.map_cons, keyD_eqv]
      by_cases e : k0 = k
      · subst e
        simp only [decide_true, if_true]
        exact .cons h rv ih
      · simp only [decide_eq_false e, if_neg e]
        exact .cons h q ih
  · rw [if_neg c, if_neg c]
    clear c
    induction l with
    | nil => exact .cons ok rv .nil
    | cons h q l ih => exact .cons h q ih
theorem repK_len {K : PySem.W.Frag} {H : Hp} {r : Rho} : ∀ {es : List (D × D)} {kvs : List (Key × V)}, RepK K H r kvs es → kvs.length = es.length
  | _, _, .nil => rfl
  | _, _, .cons h q l => by simp [repK_len l]
/-- an open dict -/
theorem dict_at {K : PySem.W.Frag} {H : Hp} {r : Rho} {h : Hd} {v : V} {d : D} {es : List (D × D)} (Y : R K r h H) (q : Rep K H r v d) (e : d.dict? h = some es) :
    ∃ a i kvs, v = .ref a ∧ d = .ref i ∧ r.l[i]? = some (some a) ∧ h[i]? = some (.dict es) ∧ H a = some (.dK kvs) ∧ RepK K H r kvs es := by
  cases d with
  | ref i =>
    have se : (D.ref i).dict? h = match h[i]? with | some (.dict es) => some es | _ => none := rfl
    rw [se] at e
    split at e
    · rename_i e1
      cases e
      cases q with
      | ref f =>
        obtain ⟨o, h1, h2⟩ := Y.get _ _ f
        rw [e1] at h1; cases h1
        obtain ⟨kvs, h3, h4⟩ := h2
        exact ⟨_, i, kvs, rfl, rfl, f, e1, h3, h4⟩
      | dead f => have := Y.dead _ f; rw [e1] at this; cases this
    · cases e
  | _ => cases e
theorem get_at {K : PySem.W.Frag} {H : Hp} {r : Rho} {h : Hd} {v u : V} {d e : D} {es : List (D × D)} (Y : R K r h H) (q : Rep K H r v d) (e1 : d.dict? h = some es) (ru : Rep K H r u e) (ko : keyOk e = true) :
    ∃ a, v = .ref a ∧ ∃ o, DGet H a u o ∧ ((∃ x w, o = some w ∧ getD es e = some x ∧ Rep K H r w x) ∨ (o = none ∧ getD es e = none)) := by
  obtain ⟨a, i, kvs, rfl, rfl, f, hi, h1, l⟩ := dict_at Y q e1
  obtain ⟨k, rfl, rfl, ok⟩ := key_rep ru ko
  obtain ⟨i1, i2⟩ := val_rep (k := k) l
  refine ⟨a, rfl, valV kvs k, .k h1, ?_⟩
  cases g : getD es (KeyD k) with
  | none => exact .inr ⟨i2 g, rfl⟩
  | some x =>
    obtain ⟨w, e3, rw'⟩ := i1 x g
    exact .inl ⟨x, w, e3, rfl, rw'⟩
theorem op_inE {n : Bool} (hu : X.A.units + 560 < cLine) : OpR X (compareOp (if n then .NotIn else .In)) (opR X.K (dIn n)) := by
  intro pins s σ H x y v u Q I rx ry ⟨r, h, d, e, Y, hd, he, q⟩
  unfold dIn at q
  split at q
  · rename_i es e1
    obtain ⟨ko, q⟩ := ok_of q
    obtain ⟨a, rfl, o, g, go⟩ := get_at Y he e1 hd ko
    cases ry
    have eo : (getD es d).isSome = o.isSome := by
      rcases go with ⟨x, w, e2, e3, _⟩ | ⟨e2, e3⟩ <;> rw [e2, e3] <;> rfl
    cases n with
    | false =>
      refine d_in (by omega) I g rx fun s' I' => ⟨.bl o.isSome, H, I', rfl, ?_⟩
      have z : (false != (getD es d).isSome) = o.isSome := by rw [eo]; cases o.isSome <;> rfl
      rw [z] at q
      exact q.now Y (.bl _)
    | true =>
      refine d_notIn (by omega) I g rx fun s' I' => ⟨.bl (!o.isSome), H, I', rfl, ?_⟩
      have z : (true != (getD es d).isSome) = !o.isSome := by rw [eo]; cases o.isSome <;> rfl
      rw [z] at q
      exact q.now Y (.bl _)
  · exact op_inS hu pins s σ H x y v u Q I rx ry ⟨r, h, d, e, Y, hd, he, q⟩
end
end Ev

/-! Ev4: expressions as evaluations, and what they are worth over the layer. -/
namespace Ev
open PySem L2

abbrev M := Calls → Tau → Hd → Res D
abbrev MB := Calls → Tau → Hd → Res Bool
abbrev ML := Calls → Tau → Hd → Res (List D)
def mVar (i : Nat) : M := fun _ t h => match t[i]? with
  | some (some d) => .ok d h
  | _ => .stuck
def mC (d : D) : M := fun _ _ h => .ok d h
def aNil : ML := fun _ _ h => .ok [] h
def aCons (m : M) (l : ML) : ML := fun c t h => (m c t h).bind fun d h1 => (l c t h1).bind fun ds h2 => .ok (d :: ds) h2
def mTup (l : ML) : M := fun c t h => (l c t h).bind freshT
def mLst (b : Bool) (l : ML) : M := fun c t h => (l c t h).bind (fresh b)
def mOp (f : D → D → Hd → Res D) (a b : M) : M := fun c t h => (a c t h).bind fun x h1 => (b c t h1).bind fun y h2 => f x y h2
def mUn (f : D → Hd → Res D) (a : M) : M := fun c t h => (a c t h).bind f
def dTrue (x : D) (h : Hd) : Res Bool :=
  match x with
  | .non => .ok false h
  | .bl b => .ok b h
  | .int i => .ok (i != 0) h
  | .str s => .ok (!s.isEmpty) h
  | .tup xs => .ok (!xs.isEmpty) h
  | .lst xs => .ok (!xs.isEmpty) h
  | .scr xs => .ok (!xs.isEmpty) h
  | .ref i => match h[i]? with
    | some (.lst xs) => .ok (!xs.isEmpty) h
    | _ => .stuck
  | .exc _ _ _ _ => .stuck
def dNeg (x : D) (h : Hd) : Res D := match x with
  | .int i => .ok (.int (-i)) h
  | _ => .stuck
def dNot (x : D) (h : Hd) : Res D := (dTrue x h).bind fun k h1 => .ok (.bl (!k)) h1
def tVal (a : M) : MB := fun c t h => (a c t h).bind dTrue
def dBl (x : D) (h : Hd) : Res Bool := match x with
  | .bl b => .ok b h
  | _ => .stuck
/-- a comparison as a test -/
def tCmp (a : M) : MB := fun c t h => (a c t h).bind dBl
def tAnd (a b : MB) : MB := fun c t h => (a c t h).bind fun k h1 => if k then b c t h1 else .ok false h1
def tOr (a b : MB) : MB := fun c t h => (a c t h).bind fun k h1 => if k then .ok true h1 else b c t h1
def tNot (a : MB) : MB := fun c t h => (a c t h).bind fun k h1 => .ok (!k) h1
def mAnd (a b : M) : M := fun c t h => (a c t h).bind fun x h1 => (dTrue x h1).bind fun k h2 => if k then b c t h2 else .ok x h2
def mOr (a b : M) : M := fun c t h => (a c t h).bind fun x h1 => (dTrue x h1).bind fun k h2 => if k then .ok x h2 else b c t h2
def mIf (k : MB) (a b : M) : M := fun c t h => (k c t h).bind fun z h1 => if z then a c t h1 else b c t h1
def mChain (f g : D → D → Hd → Res D) (a b e : M) : M := fun c t h => (a c t h).bind fun x h1 => (b c t h1).bind fun y h2 => (f x y h2).bind fun z h3 => (dBl z h3).bind fun k h4 =>
  if k then (e c t h4).bind fun w h5 => g y w h5 else .ok (.bl false) h4
def ixI (n : Nat) (i : Int) : Option Nat := if 0 ≤ i then (if i < n then some i.toNat else none) else if -(n : Int) ≤ i then some (i + n).toNat else none
def dIxS (x y : D) (h : Hd) : Res D :=
  match y with
  | .int i =>
    match x.see h with
    | .lst xs => match (ixI xs.length i).bind fun j => xs[j]? with
      | some d => .ok d h
      | none => .stuck
    | .scr xs => match (ixI xs.length i).bind fun j => xs[j]? with
      | some d => .ok d h
      | none => .stuck
    | .tup xs => match (ixI xs.length i).bind fun j => xs[j]? with
      | some d => .ok d h
      | none => .stuck
    | .str s => match (ixI s.length i).bind fun j => s[j]? with
      | some ch => .ok (.str [ch]) h
      | none => .stuck
    | _ => .stuck
  | _ => .stuck
def dIx (x y : D) (h : Hd) : Res D :=
  match x.dict? h with
  | some es => if keyOk y then (match getD es y with
    | some d => .ok d h
    | none => .stuck) else .stuck
  | none => dIxS x y h
def cutI (n d : Nat) : Option Int → Nat
  | none => d
  | some v => if v < 0 then (v + (n : Int)).toNat else min v.toNat n
def cutL {α : Type} (xs : List α) (lo hi : Option Int) : List α := (xs.drop (cutI xs.length 0 lo)).take (cutI xs.length xs.length hi - cutI xs.length 0 lo)
def dCut (m : Bool) (x : D) (lo hi : Option Int) (h : Hd) : Res D :=
  match x.see h with
  | .lst xs => fresh m (cutL xs lo hi) h
  | .scr xs => fresh m (cutL xs lo hi) h
  | .tup xs => .ok (.tup (cutL xs lo hi)) h
  | .str s => .ok (.str (cutL s lo hi)) h
  | _ => .stuck
def pNo : Calls → Tau → Hd → Res (Option Int) := fun _ _ h => .ok none h
def dPart (x : D) (h : Hd) : Res (Option Int) := match x with
  | .int i => .ok (some i) h
  | _ => .stuck
def pYes (a : M) : Calls → Tau → Hd → Res (Option Int) := fun c t h => (a c t h).bind dPart
def mCut (m : Bool) (a : M) (lo hi : Calls → Tau → Hd → Res (Option Int)) : M := fun c t h => (a c t h).bind fun x h1 => (lo c t h1).bind fun l h2 => (hi c t h2).bind fun u h3 => dCut m x l u h3
def mCall (i : Nat) (l : ML) : M := fun c t h => (l c t h).bind fun ds h1 => c i ds h1
def mB (f : List D → Hd → Res D) (l : ML) : M := fun c t h => (l c t h).bind f

section
variable {X : Cx} {CL : List XC} {W : WX} {c : Calls}
abbrev DE (X : Cx) (CL : List XC) (W : WX) (c : Calls) (e : Expr) (m : M) : Prop := PE X e (rd X.K CL W (relD X.K) c m)
abbrev DT (X : Cx) (CL : List XC) (W : WX) (c : Calls) (e : Expr) (m : MB) : Prop := PT X e (rd X.K CL W relB c m)
abbrev DW (X : Cx) (CL : List XC) (W : WX) (c : Calls) (e : Expr) (m : MB) : Prop := PW X e (rd X.K CL W relB c m)
abbrev DA (X : Cx) (CL : List XC) (W : WX) (c : Calls) (es : List Expr) (m : ML) : Prop := PA X es (rd X.K CL W (relA X.K) c m)
theorem pimp {e : Expr} {t u : TE} (h : PE X e t) (i : ∀ σ H Q, u σ H Q → t σ H Q) : PE X e u := ⟨fun pins s σ H Q I q => h.run pins s σ H Q I (i σ H Q q)⟩
theorem timp {e : Expr} {t u : TT} (h : PT X e t) (i : ∀ σ H Q, u σ H Q → t σ H Q) : PT X e u := ⟨fun pins s σ H Q I q => h.run pins s σ H Q I (i σ H Q q)⟩
theorem wimp {e : Expr} {t u : TT} (h : PW X e t) (i : ∀ σ H Q, u σ H Q → t σ H Q) : PW X e u := ⟨fun w pins s σ H Q I q => h.run w pins s σ H Q I (i σ H Q q)⟩
theorem aimp {e : List Expr} {t u : TA} (h : PA X e t) (i : ∀ σ H Q, u σ H Q → t σ H Q) : PA X e u := ⟨fun pos pins s σ H Q I q => h.run pos pins s σ H Q I (i σ H Q q)⟩

theorem de_var {i : Nat} {x : Str} {pos : Pos} (hN : X.N[i]? = some x) (hv : Vis X.env.scope x) (hd : (x == ("__debug__" : Str)) = false) (hcd : (x == ("__classdict__" : Str)) = false) : DE X CL W c (.Name x pos) (mVar i) := by
  refine pimp (pe_var hN hv hd hcd) fun σ H Q ⟨r, t, h, Y, S, q⟩ => ?_
  unfold mVar at q
  split at q
  · rename_i d e
    obtain ⟨v, e1, rv⟩ := S.get i d e
    exact ⟨v, e1, q.now Y rv⟩
  · exact q.elim
theorem de_int {i j pos} : DE X CL W c (.Constant (.int i) j pos) (mC (.int i)) := pimp pe_int fun σ H Q ⟨r, t, h, Y, S, q⟩ => q.now Y (.int i)
theorem de_bl {i j pos} : DE X CL W c (.Constant (.bool i) j pos) (mC (.bl i)) := pimp pe_bl fun σ H Q ⟨r, t, h, Y, S, q⟩ => q.now Y (.bl i)
theorem de_non {j pos} : DE X CL W c (.Constant .none j pos) (mC .non) := pimp pe_non fun σ H Q ⟨r, t, h, Y, S, q⟩ => q.now Y .non
theorem de_str {x : Str} {j pos} (hx : SOk x) : DE X CL W c (.Constant (.str x) j pos) (mC (.str x.cps.toList)) := pimp pe_str fun σ H Q ⟨r, t, h, Y, S, q⟩ => q.now Y (.str x hx)
end
/-! what stands in the written part stands anywhere -/
mutual
theorem Rep.const {K : PySem.W.Frag} {H : Hp} {r : Rho} : ∀ {d : D} {v : V}, Rep K (fun _ => none) Rho.nil v d → Rep K H r v d
  | _, _, .non => .non
  | _, _, .bl b => .bl b
  | _, _, .int i => .int i
  | _, _, .str z h => .str z h
  | _, _, .tup h k => .tup (h.elim (fun ⟨o, q, _⟩ => nomatch q) .inr) (RepA.const k)
  | _, _, .lst h k => nomatch h.1
  | _, _, .scr h k => .scr (h.elim (fun q => (no_rd q.1).elim) .inr) (RepA.const k)
  | _, _, .ref h => by simp at h
  | _, _, .dead h => by simp at h
  | _, _, .exc h z l k => .exc (h.elim (fun ⟨_, _, q, _⟩ => nomatch q) .inr) z l (RepA.const k)
theorem RepA.const {K : PySem.W.Frag} {H : Hp} {r : Rho} : ∀ {ds : List D} {vs : List V}, RepA K (fun _ => none) Rho.nil vs ds → RepA K H r vs ds
  | _, _, .nil => .nil
  | _, _, .cons h k => .cons (Rep.const h) (RepA.const k)
end
section
variable {X : Cx} {CL : List XC} {W : WX} {c : Calls}
theorem de_glob {x : Str} {v : V} {u : Value} {d : D} {pos : Pos} (hg : Gl X x) (hm : X.mg x = some u) (rv : RelV v u) (rp : Rep X.K (fun _ => none) Rho.nil v d) (hd : (x == ("__debug__" : Str)) = false) : DE X CL W c (.Name x pos) (mC d) :=
  pimp (pe_glob hg hm rv hd) fun σ H Q ⟨r, t, h, Y, S, q⟩ => q.now Y rp.const

theorem da_nil : DA X CL W c [] aNil := aimp pa_nil fun σ H Q ⟨r, t, h, Y, S, q⟩ => q.now Y .nil
theorem da_cons {e : Expr} {es : List Expr} {m : M} {l : ML} (h1 : DE X CL W c e m) (h2 : DA X CL W c es l) (hs : starEach (e :: es) X.env = (false, eval e X.env) :: starEach es X.env) : DA X CL W c (e :: es) (aCons m l) :=
  aimp (pa_cons h1 h2 hs) fun σ H Q ⟨r, t, h, Y, S, q⟩ => (rd_bind Y S q).mono fun v H1 ⟨r1, h1, d, e1, Y1, S1, rv, q1⟩ => (rd_bind Y1 S1 q1).mono fun vs H2 ⟨r2, h2, ds, e2, Y2, S2, rvs, q2⟩ =>
    q2.now Y2 (.cons (rv.mono e2) rvs)
/-- what an operator's evaluation gives is no exception: a reading of values takes it -/
theorem fresh_ok {m : Bool} {ds : List D} {h : Hd} {r : Rho} {H : Hp} {σ : L2.St} {Q : VK} (q : rdK X.K CL W (relD X.K) r H σ Q (fresh m ds h)) : okK X.K (relD X.K) r H Q (fresh m ds h) := by
  unfold fresh at *
  by_cases hz : ds.length ≤ sizeLine
  · rw [if_pos hz] at *
    cases m <;> exact q
  · rw [if_neg hz] at *; exact q
theorem freshT_ok {ds : List D} {h : Hd} {r : Rho} {H : Hp} {σ : L2.St} {Q : VK} (q : rdK X.K CL W (relD X.K) r H σ Q (freshT ds h)) : okK X.K (relD X.K) r H Q (freshT ds h) := by
  unfold freshT at *
  by_cases hz : ds.length ≤ sizeLine
  · rw [if_pos hz] at *; exact q
  · rw [if_neg hz] at *; exact q
theorem pe_tupF {es : List Expr} {t : TA} {x1 pos} (h : PA X es t) : PE X (.Tuple es x1 pos) (fun σ H Q => t σ H fun xs H1 => xs.length ≤ sizeLine ∧ ∀ p o, H1 p = none → PlainT o → Q (.ref p) (upd H1 p (.frz o (.tup xs)))) := by
  refine ⟨fun pins s σ H Q I hq => ?_⟩
  refine PySem.wpAny_Tuple_spliced (thn (h.run pos pins s σ H _ I hq) fun us s1 ⟨xs, H1, I1, r, z, q⟩ => ⟨by rw [← r.length]; exact z, ?_⟩)
  exact ⟨.ref _, _, tup_laid (t' := s1.toks) I1 r z, rfl, q _ _ (I1.hok.fresh (Nat.le_refl _)) ⟨_, _, rfl⟩⟩
theorem de_tup {es : List Expr} {l : ML} {x1 pos} (h : DA X CL W c es l) : DE X CL W c (.Tuple es x1 pos) (mTup l) :=
  pimp (pe_tupF h) fun σ H Q ⟨r, t, h, Y, S, q⟩ => (rd_bind Y S q).mono fun vs H1 ⟨r1, h1, ds, e1, Y1, S1, rv, q1⟩ => by
    have q2 := freshT_ok q1
    have hz := freshT_len q2
    exact ⟨by rw [rv.len]; exact hz, fun p o n d => new_tup Y1 rv q2 n d⟩
theorem de_lst {es : List Expr} {l : ML} {pos} {b : Bool} (h : DA X CL W c es l) : DE X CL W c (.List es pos) (mLst b l) :=
  pimp (pe_lst h) fun σ H Q ⟨r, t, h, Y, S, q⟩ => (rd_bind Y S q).mono fun vs H1 ⟨r1, h1, ds, e1, Y1, S1, rv, q1⟩ => by
    have q2 := fresh_ok q1
    have hz := fresh_len q2
    exact ⟨by rw [rv.len]; exact hz, fun p n => new_shut Y1 rv q2 n⟩
/-- an operation that never raises -/
def Calm (f : D → D → Hd → Res D) : Prop := ∀ x y h c fs h', f x y h ≠ .exn c fs h'
theorem op_of {f : D → D → Hd → Res D} (hf : Calm f) {op : Value → Value → Sem Value} (ho : OpR X op (opR X.K f)) {a b : Expr} {ma mb : M} (ha : DE X CL W c a ma) (hb : DE X CL W c b mb) {σ : L2.St} {H : Hp} {Q : VK} (q : rd X.K CL W (relD X.K) c (mOp f ma mb) σ H Q) :
    tOp (opR X.K f) (rd X.K CL W (relD X.K) c ma) (rd X.K CL W (relD X.K) c mb) σ H Q := by
  obtain ⟨r, t, h, Y, S, q⟩ := q
  exact (rd_bind Y S q).mono fun v H1 ⟨r1, h1, d, e1, Y1, S1, rv, q1⟩ => (rd_bind Y1 S1 q1).mono fun u H2 ⟨r2, h2, e, e2, Y2, S2, ru, q2⟩ =>
    ⟨r2, h2, d, e, Y2, rv.mono e2, ru, q2.okK (hf _ _ _)⟩
theorem de_op {f : D → D → Hd → Res D} (hf : Calm f) {op : Operator} (ho : OpR X (binaryOp op) (opR X.K f)) {a b : Expr} {ma mb : M} (ha : DE X CL W c a ma) (hb : DE X CL W c b mb) {pos} : DE X CL W c (.BinOp a op b pos) (mOp f ma mb) :=
  pimp (pe_op ho ha hb) fun _ _ _ q => op_of hf ho ha hb q
theorem de_cmp {f : D → D → Hd → Res D} (hf : Calm f) {op : CmpOp} (ho : OpR X (compareOp op) (opR X.K f)) {a b : Expr} {ma mb : M} (ha : DE X CL W c a ma) (hb : DE X CL W c b mb) (hm : behindInMarks op b = false) {pos} : DE X CL W c (.Compare a [op] [b] pos) (mOp f ma mb) :=
  pimp (pe_cmpR ho ha hb hm) fun _ _ _ q => op_of hf ho ha hb q
theorem dBl_rd {r : Rho} {H : Hp} {σ : L2.St} {h : Hd} {Q : Bool → Hp → Prop} {d : D} {v : V} {K : PySem.W.Frag} (Y : R K r h H) (rv : Rep K H r v d) (q : rdK K CL W relB r H σ Q (dBl d h)) : ∃ k, v = .bl k ∧ Q k H := by
  unfold dBl at q
  split at q
  · cases rv; exact ⟨_, rfl, q.now Y rfl⟩
  · exact q.elim
/-- a comparison as a test -/
theorem dt_cmp {m : M} {a : Expr} {op : CmpOp} {b : Expr} {pos} {t : TE} (h : PT X (.Compare a [op] [b] pos) (tTest t)) (i : ∀ σ H Q, rd X.K CL W (relD X.K) c m σ H Q → t σ H Q) : DT X CL W c (.Compare a [op] [b] pos) (tCmp m) :=
  timp h fun σ H Q ⟨r, t, h, Y, S, q⟩ => i _ _ _ ((rd_bind Y S q).mono fun v H1 ⟨r1, h1, d, e1, Y1, S1, rv, q1⟩ => dBl_rd Y1 rv q1)
theorem dt_op {f : D → D → Hd → Res D} (hf : Calm f) {op : CmpOp} (ho : OpR X (compareOp op) (opR X.K f)) {a b : Expr} {ma mb : M} (ha : DE X CL W c a ma) (hb : DE X CL W c b mb) (hm : behindInMarks op b = false) {pos} : DT X CL W c (.Compare a [op] [b] pos) (tCmp (mOp f ma mb)) :=
  dt_cmp (pt_cmpR ho ha hb hm) fun _ _ _ q => op_of hf ho ha hb q
theorem chain_of {f g : D → D → Hd → Res D} (hf : Calm f) (hg : Calm g) {a b e : Expr} {ma mb me : M} {σ : L2.St} {H : Hp} {Q : VK} (q : rd X.K CL W (relD X.K) c (mChain f g ma mb me) σ H Q) :
    tChain (opR X.K f) (opR X.K g) (rd X.K CL W (relD X.K) c ma) (rd X.K CL W (relD X.K) c mb) (rd X.K CL W (relD X.K) c me) σ H Q := by
  obtain ⟨r, t, h, Y, S, q⟩ := q
  refine (rd_bind Y S q).mono fun v H1 ⟨r1, h1, d, e1, Y1, S1, rv, q1⟩ => (rd_bind Y1 S1 q1).mono fun u H2 ⟨r2, h2, e, e2, Y2, S2, ru, q2⟩ => ?_
  refine ⟨r2, h2, d, e, Y2, rv.mono e2, ru, ?_⟩
  cases e3 : f d e h2 with
  | exn c fs h' => exact (hf _ _ _ _ _ _ e3).elim
  | stuck => rw [e3] at q2; exact q2.elim
  | ok z h3 =>
    rw [e3] at q2
    intro w r3 H3 x3 Y3 rw3
    have q3 : rdK X.K CL W (relD X.K) r2 H2 σ Q ((dBl z h3).bind fun k h4 => if k = true then (me c t h4).bind fun w h5 => g e w h5 else .ok (.bl false) h4) := q2
    unfold dBl at q3
    split at q3
    · rename_i k
      cases rw3
      refine ⟨k, rfl, ?_⟩
      have q4 : rdK X.K CL W (relD X.K) r3 H3 σ Q (if k = true then (me c t h3).bind fun w h5 => g e w h5 else .ok (.bl false) h3) := q3.ext x3
      cases k with
      | true =>
        rw [if_pos rfl] at q4 ⊢
        exact (rd_bind Y3 (S2.mono x3) q4).mono fun w H4 ⟨r4, h4, d4, e4, Y4, S4, rv4, q5⟩ => ⟨r4, h4, e, d4, Y4, (ru.mono x3).mono e4, rv4, q5.okK (hg _ _ _)⟩
      | false =>
        rw [if_neg (by decide)] at q4 ⊢
        exact q4.now Y3 (.bl false)
    · exact q3.elim
theorem de_chain {f g : D → D → Hd → Res D} (hf : Calm f) (hg : Calm g) {op op' : CmpOp} (ho : OpR X (compareOp op) (opR X.K f)) (ho' : OpR X (compareOp op') (opR X.K g)) {a b e : Expr} {ma mb me : M} (ha : DE X CL W c a ma) (hb : DE X CL W c b mb) (he : DE X CL W c e me)
    (hm : lastMarks [op, op'] [b, e] = false) {pos} : DE X CL W c (.Compare a [op, op'] [b, e] pos) (mChain f g ma mb me) :=
  pimp (pe_chain ho ho' ha hb he hm) fun _ _ _ q => chain_of (a := a) (b := b) (e := e) hf hg q
theorem dt_chain {f g : D → D → Hd → Res D} (hf : Calm f) (hg : Calm g) {op op' : CmpOp} (ho : OpR X (compareOp op) (opR X.K f)) (ho' : OpR X (compareOp op') (opR X.K g)) {a b e : Expr} {ma mb me : M} (ha : DE X CL W c a ma) (hb : DE X CL W c b mb) (he : DE X CL W c e me)
    (hm : lastMarks [op, op'] [b, e] = false) {pos} : DT X CL W c (.Compare a [op, op'] [b, e] pos) (tCmp (mChain f g ma mb me)) :=
  timp (pt_chain ho ho' ha hb he hm) fun σ H Q ⟨r, t, h, Y, S, q⟩ => chain_of (a := a) (b := b) (e := e) hf hg ((rd_bind Y S q).mono fun v H1 ⟨r1, h1, d, e1, Y1, S1, rv, q1⟩ => dBl_rd Y1 rv q1)

/-! ### truth -/
theorem dTrue_calm {x : D} {h : Hd} {c : Nat} {fs : List D} {h' : Hd} : dTrue x h ≠ .exn c fs h' := by
  unfold dTrue
  split <;> try (intro z; cases z)
  split <;> (intro z; cases z)
theorem dTrue_rd {r : Rho} {H : Hp} {h : Hd} {d : D} {v : V} {K : PySem.W.Frag} {k : Bool} {h' : Hd} (Y : R K r h H) (rv : Rep K H r v d) (e : dTrue d h = .ok k h') : h' = h ∧ TruV K v H k := by
  have emp : ∀ {vs : List V} {ds : List D}, RepA K H r vs ds → ds.isEmpty = vs.isEmpty := fun k => by cases k <;> rfl
  unfold dTrue at e
  split at e
  · cases e; cases rv; exact ⟨rfl, rfl⟩
  · cases e; cases rv; exact ⟨rfl, rfl⟩
  · cases e; cases rv; exact ⟨rfl, rfl⟩
  · cases e
    obtain ⟨x, rfl, rfl, ox⟩ := rep_str rv
    refine ⟨rfl, ?_, ?_⟩
    · have := ox.2
      show x.cps.size ≤ _
      rw [sizeLine_eq]; omega
    · show (!x.cps.toList.isEmpty) = ((x.cps.size : Int) != 0)
      rw [← Array.length_toList]
      cases x.cps.toList with
      | nil => rfl
      | cons a l => simp; omega
  · cases e
    cases rv with
    | tup f k => exact ⟨rfl, .inr (.inl ⟨_, f.seq, by rw [emp k]⟩)⟩
  · cases e
    cases rv with
    | lst f k => exact ⟨rfl, .inl ⟨_, f.seq, by rw [emp k]⟩⟩
  · cases e
    cases rv with
    | scr f k => exact ⟨rfl, .inl ⟨_, f.seq, by rw [emp k]⟩⟩
  · rename_i i
    split at e
    · rename_i xs e1
      cases e
      obtain ⟨a, vs, rfl, h1, h2⟩ := items_at Y rv (xs := xs) (by unfold D.items?; simp only [e1])
      exact ⟨rfl, .inl ⟨_, .inl (.inl h1), by rw [emp h2]⟩⟩
    · cases e
  · cases e
theorem tru_of {r : Rho} {H : Hp} {h : Hd} {d : D} {v : V} {K : PySem.W.Frag} {β α : Type} {rel : Rl β α} {σ : L2.St} {Q : β → Hp → Prop} {f : Bool → Hd → Res α} (Y : R K r h H) (rv : Rep K H r v d) (q : rdK K CL W rel r H σ Q ((dTrue d h).bind f)) : ∃ k, TruV K v H k ∧ rdK K CL W rel r H σ Q (f k h) := by
  cases e : dTrue d h with
  | exn c fs h' => exact (dTrue_calm e).elim
  | stuck => rw [e] at q; exact q.elim
  | ok k h' =>
    obtain ⟨rfl, tv⟩ := dTrue_rd Y rv e
    rw [e] at q
    exact ⟨k, tv, q⟩
theorem tru_of' {r : Rho} {H : Hp} {h : Hd} {d : D} {v : V} {K : PySem.W.Frag} {σ : L2.St} {Q : Bool → Hp → Prop} (Y : R K r h H) (rv : Rep K H r v d) (q : rdK K CL W relB r H σ Q (dTrue d h)) : ∃ k, TruV K v H k ∧ Q k H := by
  cases e : dTrue d h with
  | exn c fs h' => exact (dTrue_calm e).elim
  | stuck => rw [e] at q; exact q.elim
  | ok k h' =>
    obtain ⟨rfl, tv⟩ := dTrue_rd Y rv e
    rw [e] at q
    exact ⟨k, tv, q.now Y rfl⟩
theorem dt_val {e : Expr} {m : M} (h : DE X CL W c e m) (he : ∀ whole, isTrue e X.env whole = (do let v ← whole; standAt e.pos; holding [v] (truthy v))) : DT X CL W c e (tVal m) :=
  timp (pt_truth h he) fun σ H Q ⟨r, t, h, Y, S, q⟩ => (rd_bind Y S q).mono fun v H1 ⟨r1, h1, d, e1, Y1, S1, rv, q1⟩ => tru_of' Y1 rv q1
theorem de_not {e : Expr} {m : M} {pos} (h : DE X CL W c e m) : DE X CL W c (.UnaryOp .Not e pos) (mUn dNot m) :=
  pimp (pe_notT h) fun σ H Q ⟨r, t, h, Y, S, q⟩ => (rd_bind Y S q).mono fun v H1 ⟨r1, h1, d, e1, Y1, S1, rv, q1⟩ => by
    obtain ⟨k, tv, q2⟩ := tru_of Y1 rv q1
    exact ⟨k, tv, q2.now Y1 (.bl _)⟩
theorem dt_not {e : Expr} {m : MB} {pos} (h : DT X CL W c e m) : DT X CL W c (.UnaryOp .Not e pos) (tNot m) :=
  timp (pt_not h) fun σ H Q ⟨r, t, h, Y, S, q⟩ => (rd_bind (rel1 := relB) Y S q).mono fun v H1 ⟨r1, h1, d, e1, Y1, S1, rv, q1⟩ => by
    have rv : v = d := rv
    subst rv
    exact q1.now Y1 rfl
theorem dw_one {e : Expr} {m : MB} {pos} (h : DT X CL W c e m) : DW X CL W c (.BoolOp .And [e] pos) m := pw_and1 h
theorem dw_one' {e : Expr} {m : MB} {pos} (h : DT X CL W c e m) : DW X CL W c (.BoolOp .Or [e] pos) m := pw_or1 h
theorem dw_and {a b : Expr} {rest : List Expr} {ma mb : MB} {pos} (h1 : DT X CL W c a ma) (h2 : DW X CL W c (.BoolOp .And (b :: rest) pos) mb) : DW X CL W c (.BoolOp .And (a :: b :: rest) pos) (tAnd ma mb) :=
  wimp (pw_and h1 h2) fun σ H Q ⟨r, t, h, Y, S, q⟩ => (rd_bind (rel1 := relB) Y S q).mono fun v H1 ⟨r1, h1, d, e1, Y1, S1, rv, q1⟩ => by
    have rv : v = d := rv
    subst rv
    cases v with
    | true => rw [if_pos rfl] at q1 ⊢; exact ⟨r1, t, h1, Y1, S1, q1⟩
    | false => rw [if_neg (by decide)] at q1 ⊢; exact q1.now Y1 rfl
theorem dw_or {a b : Expr} {rest : List Expr} {ma mb : MB} {pos} (h1 : DT X CL W c a ma) (h2 : DW X CL W c (.BoolOp .Or (b :: rest) pos) mb) : DW X CL W c (.BoolOp .Or (a :: b :: rest) pos) (tOr ma mb) :=
  wimp (pw_or h1 h2) fun σ H Q ⟨r, t, h, Y, S, q⟩ => (rd_bind (rel1 := relB) Y S q).mono fun v H1 ⟨r1, h1, d, e1, Y1, S1, rv, q1⟩ => by
    have rv : v = d := rv
    subst rv
    cases v with
    | true => rw [if_pos rfl] at q1 ⊢; exact q1.now Y1 rfl
    | false => rw [if_neg (by decide)] at q1 ⊢; exact ⟨r1, t, h1, Y1, S1, q1⟩
theorem de_one {e : Expr} {op} {m : M} {pos} (h : DE X CL W c e m) : DE X CL W c (.BoolOp op [e] pos) m := pe_one h
theorem de_and {a b : Expr} {rest : List Expr} {ma mb : M} {pos} (h1 : DE X CL W c a ma) (h2 : DE X CL W c (.BoolOp .And (b :: rest) pos) mb) : DE X CL W c (.BoolOp .And (a :: b :: rest) pos) (mAnd ma mb) :=
  pimp (pe_andT h1 h2) fun σ H Q ⟨r, t, h, Y, S, q⟩ => (rd_bind Y S q).mono fun v H1 ⟨r1, h1, d, e1, Y1, S1, rv, q1⟩ => by
    obtain ⟨k, tv, q2⟩ := tru_of Y1 rv q1
    refine ⟨k, tv, ?_⟩
    cases k with
    | true => rw [if_pos rfl] at q2 ⊢; exact ⟨r1, t, h1, Y1, S1, q2⟩
    | false => rw [if_neg (by decide)] at q2 ⊢; exact q2.now Y1 rv
theorem de_or {a b : Expr} {rest : List Expr} {ma mb : M} {pos} (h1 : DE X CL W c a ma) (h2 : DE X CL W c (.BoolOp .Or (b :: rest) pos) mb) : DE X CL W c (.BoolOp .Or (a :: b :: rest) pos) (mOr ma mb) :=
  pimp (pe_orT h1 h2) fun σ H Q ⟨r, t, h, Y, S, q⟩ => (rd_bind Y S q).mono fun v H1 ⟨r1, h1, d, e1, Y1, S1, rv, q1⟩ => by
    obtain ⟨k, tv, q2⟩ := tru_of Y1 rv q1
    refine ⟨k, tv, ?_⟩
    cases k with
    | true => rw [if_pos rfl] at q2 ⊢; exact q2.now Y1 rv
    | false => rw [if_neg (by decide)] at q2 ⊢; exact ⟨r1, t, h1, Y1, S1, q2⟩
theorem de_if {k a b : Expr} {mk : MB} {ma mb : M} {pos} (h0 : DT X CL W c k mk) (h1 : DE X CL W c a ma) (h2 : DE X CL W c b mb) : DE X CL W c (.IfExp k a b pos) (mIf mk ma mb) :=
  pimp (pe_ifExp h0 h1 h2) fun σ H Q ⟨r, t, h, Y, S, q⟩ => (rd_bind (rel1 := relB) Y S q).mono fun v H1 ⟨r1, h1, d, e1, Y1, S1, rv, q1⟩ => by
    have rv : v = d := rv
    subst rv
    cases v with
    | true => rw [if_pos rfl] at q1 ⊢; exact ⟨r1, t, h1, Y1, S1, q1⟩
    | false => rw [if_neg (by decide)] at q1 ⊢; exact ⟨r1, t, h1, Y1, S1, q1⟩
theorem de_neg {a : Expr} {m : M} {pos} (h : DE X CL W c a m) : DE X CL W c (.UnaryOp .USub a pos) (mUn dNeg m) :=
  pimp (pe_un un_neg h) fun σ H Q ⟨r, t, h, Y, S, q⟩ => (rd_bind Y S q).mono fun v H1 ⟨r1, h1, d, e1, Y1, S1, rv, q1⟩ => by
    unfold dNeg at q1
    split at q1
    · cases rv; exact ⟨_, rfl, q1.now Y1 (.int _)⟩
    · exact q1.elim
end
end Ev

/-! Ev5: items, slices, calls. -/
namespace Ev
open PySem L2
section
variable {X : Cx} {CL : List XC} {W : WX} {c : Calls}
theorem see_lst {K : PySem.W.Frag} {H : Hp} {r : Rho} {h : Hd} {v : V} {d : D} {ys : List D} (Y : R K r h H) (q : Rep K H r v d) (e : d.see h = .lst ys) : ∃ a vs, v = .ref a ∧ H a = some (.lst vs) ∧ RepA K H r vs ys := items_at Y q (see_eq_ref e)
theorem see_same {h : Hd} {d e : D} (q : d.see h = e) (n : ∀ ys, e ≠ .lst ys) : (∃ i, d = .ref i ∧ e = .ref i) ∨ d = e := by
  cases d with
  | ref i =>
    have se : (D.ref i).see h = match h[i]? with | some (.lst xs) => D.lst xs | _ => D.ref i := rfl
    rw [se] at q
    split at q
    · exact (n _ q.symm).elim
    · exact .inl ⟨i, rfl, q.symm⟩
  | _ => exact .inr q
theorem see_scr {K : PySem.W.Frag} {H : Hp} {r : Rho} {h : Hd} {v : V} {d : D} {ys : List D} (q : Rep K H r v d) (e : d.see h = .scr ys) : ∃ a vs, v = .ref a ∧ SqL K H a vs ∧ RepA K H r vs ys := by
  rcases see_same e (fun _ z => by cases z) with ⟨i, _, z⟩ | rfl
  · cases z
  · cases q with
    | scr f k => exact ⟨_, _, rfl, f.seq, k⟩
theorem see_tup {K : PySem.W.Frag} {H : Hp} {r : Rho} {h : Hd} {v : V} {d : D} {ys : List D} (q : Rep K H r v d) (e : d.see h = .tup ys) : ∃ a vs, v = .ref a ∧ FzT K H r a vs ∧ RepA K H r vs ys := by
  rcases see_same e (fun _ z => by cases z) with ⟨i, _, z⟩ | rfl
  · cases z
  · cases q with
    | tup f k => exact ⟨_, _, rfl, f, k⟩
theorem see_str {K : PySem.W.Frag} {H : Hp} {r : Rho} {h : Hd} {v : V} {d : D} {ys : List Nat} (q : Rep K H r v d) (e : d.see h = .str ys) : ∃ x : Str, v = .str x ∧ x.cps.toList = ys ∧ SOk x := by
  rcases see_same e (fun _ z => by cases z) with ⟨i, _, z⟩ | rfl
  · cases z
  · exact rep_str q
theorem ixI_eq (n : Nat) (i : Int) : ixN n i = ixI n i := rfl
theorem at_rep {K : PySem.W.Frag} {H : Hp} {r : Rho} {vs : List V} {ds : List D} {i : Int} {d : D} (k : RepA K H r vs ds) (e : (ixI ds.length i).bind (fun j => ds[j]?) = some d) : ∃ v, atI vs i = some v ∧ Rep K H r v d := by
  unfold atI
  rw [k.len, ixI_eq]
  cases q : ixI ds.length i with
  | none => rw [q] at e; cases e
  | some j =>
    rw [q] at e
    exact k.get' e
theorem strOk_get {x : Str} {j : Nat} {ch : Nat} (h : PySem.PyData.strOk x = true) (e : x.cps.toList[j]? = some ch) : PySem.PyData.strOk ⟨#[ch]⟩ = true := by
  unfold PySem.PyData.strOk at h ⊢
  rw [Array.all_eq_true'] at h
  have m : ch ∈ x.cps := by
    have := List.mem_of_getElem? e
    simpa using this
  have z := h ch m
  simpa using z
theorem sOk_one {x : Str} {j : Nat} {ch : Nat} (h : SOk x) (e : x.cps.toList[j]? = some ch) : SOk ⟨#[ch]⟩ := ⟨strOk_get h.1 e, by simp⟩
theorem ix_S : IxR X (opR X.K dIxS) := by
  intro value slice pins s σ H x y v u Q I rx ry q hs
  obtain ⟨r, h, d, e, Y, hd, he, q⟩ := q
  unfold dIxS at q
  split at q
  · rename_i i
    cases he
    split at q
    · rename_i xs e1
      split at q
      · rename_i z e2
        obtain ⟨a, vs, rfl, h1, k⟩ := see_lst Y hd e1
        obtain ⟨w, ew, rw'⟩ := at_rep k e2
        exact ix_list value slice pins s σ H _ _ v u Q I rx ry ⟨a, vs, i, w, rfl, rfl, .inl (.inl h1), ew, q.now Y rw'⟩ hs
      · exact q.elim
    · rename_i xs e1
      split at q
      · rename_i z e2
        obtain ⟨a, vs, rfl, h1, k⟩ := see_scr hd e1
        obtain ⟨w, ew, rw'⟩ := at_rep k e2
        exact ix_list value slice pins s σ H _ _ v u Q I rx ry ⟨a, vs, i, w, rfl, rfl, h1, ew, q.now Y rw'⟩ hs
      · exact q.elim
    · rename_i xs e1
      split at q
      · rename_i z e2
        obtain ⟨a, vs, rfl, h1, k⟩ := see_tup hd e1
        obtain ⟨w, ew, rw'⟩ := at_rep k e2
        exact ix_tup value slice pins s σ H _ _ v u Q I rx ry ⟨a, vs, i, w, rfl, rfl, h1.seq, ew, q.now Y rw'⟩ hs
      · exact q.elim
    · rename_i xs e1
      split at q
      · rename_i ch e2
        obtain ⟨x, rfl, rfl, ox⟩ := see_str hd e1
        refine ix_str value slice pins s σ H _ _ v u Q I rx ry ⟨x, i, ch, rfl, rfl, ?_, ?_, ?_⟩ hs
        · have := ox.2
          show x.cps.size ≤ _
          rw [sizeLine_eq]; omega
        · unfold atI; rw [ixI_eq]; exact e2
        · cases q3 : ixI x.cps.toList.length i with
          | none => rw [q3] at e2; cases e2
          | some j =>
            rw [q3] at e2
            have rp : Rep X.K H r (.str ⟨#[ch]⟩) (.str [ch]) := .str ⟨#[ch]⟩ (sOk_one ox e2)
            exact q.now Y rp
      · exact q.elim
    · exact q.elim
  · exact q.elim
theorem ix_E (hu : X.A.units + 560 < cLine) : IxR X (opR X.K dIx) := by
  intro value slice pins s σ H x y v u Q I rx ry ⟨r, h, d, e, Y, hd, he, q⟩ hs
  unfold dIx at q
  split at q
  · rename_i es e1
    obtain ⟨ko, q⟩ := ok_of q
    obtain ⟨a, rfl, o, g, go⟩ := get_at Y hd e1 he ko
    cases rx
    rcases go with ⟨x, w, e2, e3, rw'⟩ | ⟨e2, e3⟩
    · subst e2
      rw [e3] at q
      refine PyProof.Rows.tail_any (dict_typeIs I g) PySem.F.slot_dict_getitem.lookup (d_getItem (by omega) I g ry fun w' s3 I3 r3 => ⟨w, H, I3, r3, q.now Y rw'⟩) hs
    · rw [e3] at q; exact q.elim
  · exact ix_S value slice pins s σ H x y v u Q I rx ry ⟨r, h, d, e, Y, hd, he, q⟩ hs
theorem dIx_calm : Calm dIx := by
  intro x y h c fs h' e
  unfold dIx dIxS at e
  repeat' split at e
  all_goals cases e
theorem de_ix {a b : Expr} {ma mb : M} {pos} (hu : X.A.units + 560 < cLine) (ha : DE X CL W c a ma) (hb : DE X CL W c b mb) (hs : PlainIx b) : DE X CL W c (.Subscript a b pos) (mOp dIx ma mb) :=
  pimp (pe_ix (ix_E hu) ha hb hs) fun _ _ _ q => by
    obtain ⟨r, t, h, Y, S, q⟩ := q
    exact (rd_bind Y S q).mono fun v H1 ⟨r1, h1, d, e1, Y1, S1, rv, q1⟩ => (rd_bind Y1 S1 q1).mono fun u H2 ⟨r2, h2, e, e2, Y2, S2, ru, q2⟩ => ⟨r2, h2, d, e, Y2, rv.mono e2, ru, q2.okK (dIx_calm _ _ _)⟩

/-! ### slices -/
theorem cutI_eq (n d : Nat) (o : Option Int) : HT.sIx n d o = cutI n d o := by cases o <;> rfl
theorem cut_rep {K : PySem.W.Frag} {H : Hp} {r : Rho} {vs : List V} {ds : List D} (k : RepA K H r vs ds) (lo hi : Option Int) : RepA K H r (cutV vs lo hi) (cutL ds lo hi) := by
  unfold cutV cutL
  rw [cutI_eq, cutI_eq, k.len]
  exact (k.drop _).take _
theorem cutL_le {α : Type} (xs : List α) (lo hi : Option Int) : (cutL xs lo hi).length ≤ xs.length := by
  unfold cutL
  rw [List.length_take, List.length_drop]; omega
theorem cutL_mem {α : Type} {xs : List α} {lo hi : Option Int} {x : α} (h : x ∈ cutL xs lo hi) : x ∈ xs := List.mem_of_mem_drop (List.mem_of_mem_take h)
theorem cutL_whole {α : Type} {xs : List α} {lo hi : Option Int} (h : cutI xs.length 0 lo = 0 ∧ cutI xs.length xs.length hi = xs.length) : cutL xs lo hi = xs := by
  unfold cutL
  rw [h.1, h.2]; simp
def slR (K : PySem.W.Frag) (m : Bool) : V → Option Int → Option Int → Hp → VK → Prop := fun x lo hi H Q => ∃ r h d, R K r h H ∧ Rep K H r x d ∧ okK K (relD K) r H Q (dCut m d lo hi h)
theorem sl_E {m : Bool} : SlR X (slR X.K m) := by
  intro pins s σ H x v vl vu lo hi sl Q I rx hs pl pu q
  obtain ⟨r, h, d, Y, hd, q⟩ := q
  unfold dCut at q
  split at q
  · rename_i xs e1
    obtain ⟨a, vs, rfl, h1, k⟩ := see_lst Y hd e1
    exact sl_list pins s σ H _ v vl vu lo hi sl Q I rx hs pl pu ⟨a, vs, rfl, .inl (.inl h1), fun p n => new_shut Y (cut_rep k lo hi) q n⟩
  · rename_i xs e1
    obtain ⟨a, vs, rfl, h1, k⟩ := see_scr hd e1
    exact sl_list pins s σ H _ v vl vu lo hi sl Q I rx hs pl pu ⟨a, vs, rfl, h1, fun p n => new_shut Y (cut_rep k lo hi) q n⟩
  · rename_i xs e1
    obtain ⟨a, vs, rfl, h1, k⟩ := see_tup hd e1
    cases rx
    obtain ⟨its, rr, ht, hz⟩ := I.tuple h1.seq
    have hlen : its.toArray.size = vs.length := by rw [List.size_toArray]; exact rr.length.symm
    refine ⟨"tuple", _, PyProof.Rows.slot_tuple_getitem.lookup, ht.typeIs, ?_⟩
    by_cases hw : HT.sIx vs.length 0 lo = 0 ∧ HT.sIx vs.length vs.length hi = vs.length
    · refine L2.getItem_tuple_whole ht hs pl pu (by rw [hlen]; exact hw) ⟨.ref a, H, I, rfl, ?_⟩
      rw [cutI_eq, cutI_eq, k.len] at hw
      rw [cutL_whole hw] at q
      exact q.now Y (.tup h1 k)
    · refine HT.getItem_tuple_cut ht hs pl pu (by rw [hlen]; exact hw) ?_ (by rw [hlen]; exact hz)
      rw [hlen]
      refine ⟨.ref _, _, tup_laid (t' := s.toks) I ((rr.drop (HT.sIx vs.length 0 lo)).take (HT.sIx vs.length vs.length hi - HT.sIx vs.length 0 lo)) (Nat.le_trans (cutV_length vs lo hi) hz), rfl, ?_⟩
      have hq : okK X.K (relD X.K) r H Q (freshT (cutL xs lo hi) h) := by
        unfold freshT
        rw [if_pos (Nat.le_trans (cutL_le xs lo hi) (by rw [← k.len]; exact hz))]
        exact q
      exact new_tup Y (cut_rep k lo hi) hq (I.hok.fresh (Nat.le_refl _)) ⟨_, _, rfl⟩
  · rename_i xs e1
    obtain ⟨x, rfl, rfl, ox⟩ := see_str hd e1
    refine sl_str pins s σ H _ v vl vu lo hi sl Q I rx hs pl pu ⟨x, rfl, ?_, ?_⟩
    · have := ox.2
      show x.cps.size ≤ _
      rw [sizeLine_eq]; omega
    · have ec : (cutS x lo hi).cps.toList = cutL x.cps.toList lo hi := by
        unfold cutS cutL
        have e3 : x.length = x.cps.toList.length := by rw [Array.length_toList]; rfl
        rw [cutI_eq, cutI_eq, e3]
      have ok : SOk (cutS x lo hi) := by
        refine ⟨?_, ?_⟩
        · have h0 := ox.1
          unfold PySem.PyData.strOk at h0 ⊢
          rw [Array.all_eq_true'] at h0 ⊢
          intro ch m
          have m1 : ch ∈ (cutS x lo hi).cps.toList := by simpa using m
          rw [ec] at m1
          exact h0 ch (by simpa using cutL_mem m1)
        · rw [← Array.length_toList, ec]
          exact Nat.le_trans (cutL_le _ _ _) (by rw [Array.length_toList]; exact ox.2)
      have rp : Rep X.K H r (.str (cutS x lo hi)) (.str (cutL x.cps.toList lo hi)) := by rw [← ec]; exact .str _ ok
      exact q.now Y rp
  · exact q.elim
theorem dCut_ok {m : Bool} {d : D} {lo hi : Option Int} {h : Hd} {r : Rho} {H : Hp} {σ : L2.St} {Q : VK} (q : rdK X.K CL W (relD X.K) r H σ Q (dCut m d lo hi h)) : okK X.K (relD X.K) r H Q (dCut m d lo hi h) := by
  unfold dCut at *
  split at q
  · exact fresh_ok q
  · exact fresh_ok q
  · exact q
  · exact q
  · exact q
abbrev relO : Rl (Option Int) (Option Int) := fun _ _ v d => v = d
abbrev DP (X : Cx) (CL : List XC) (W : WX) (c : Calls) (e : Option Expr) (m : Calls → Tau → Hd → Res (Option Int)) : Prop := PO X e (rd X.K CL W relO c m)
theorem dp_no : DP X CL W c none pNo := ⟨fun pins s σ H Q I ⟨r, t, h, Y, S, q⟩ => po_none.run pins s σ H Q I (q.now Y rfl)⟩
theorem dp_yes {e : Expr} {m : M} (h : DE X CL W c e m) : DP X CL W c (some e) (pYes m) := ⟨fun pins s σ H Q I ⟨r, t, h0, Y, S, q⟩ =>
  (po_some h).run pins s σ H Q I ((rd_bind Y S q).mono fun v H1 ⟨r1, h1, d, e1, Y1, S1, rv, q1⟩ => by
    unfold dPart at q1
    split at q1
    · cases rv; exact ⟨_, rfl, q1.now Y1 rfl⟩
    · exact q1.elim)⟩
theorem de_cut {m : Bool} {e : Expr} {lo hi : Option Expr} {me : M} {ml mh : Calls → Tau → Hd → Res (Option Int)} {p2 pos} (h : DE X CL W c e me) (hl : DP X CL W c lo ml) (hh : DP X CL W c hi mh) :
    DE X CL W c (.Subscript e (.Slice lo hi none p2) pos) (mCut m me ml mh) :=
  pimp (pe_slice (sl_E (m := m)) h hl hh) fun σ H Q ⟨r, t, h, Y, S, q⟩ => (rd_bind Y S q).mono fun v H1 ⟨r1, h1, d, e1, Y1, S1, rv, q1⟩ =>
    (rd_bind (rel1 := relO) Y1 S1 q1).mono fun l H2 ⟨r2, h2, l', e2, Y2, S2, rl, q2⟩ => (rd_bind (rel1 := relO) Y2 S2 q2).mono fun u H3 ⟨r3, h3, u', e3, Y3, S3, ru, q3⟩ => by
      have rl : l = l' := rl
      have ru : u = u' := ru
      subst rl ru
      exact ⟨r3, h3, d, Y3, (rv.mono e2).mono e3, dCut_ok q3⟩

/-! ### is None -/
theorem isN_of {r : Rho} {H : Hp} {h : Hd} {d : D} {v : V} {σ : L2.St} {Q : VK} {n : Bool} (Y : R X.K r h H) (rv : Rep X.K H r v d) (q : rdK X.K CL W (relD X.K) r H σ Q (dIsN n d h)) : Q (.bl (n != decide (v = .non))) H := by
  have no : ∀ {k : Bool}, rdK X.K CL W (relD X.K) r H σ Q (.ok (.bl n) h) → v ≠ .non → Q (.bl (n != decide (v = .non))) H := fun q ne => by
    rw [decide_eq_false ne]
    have e : (n != false) = n := by cases n <;> rfl
    rw [e]
    exact q.now Y (.bl n)
  unfold dIsN at q
  split at q
  · cases rv
    have e : (n != decide (V.non = V.non)) = !n := by cases n <;> rfl
    rw [e]
    exact q.now Y (.bl _)
  · rename_i i
    have live : (∃ xs, h[i]? = some (.lst xs)) ∨ (∃ kvs, h[i]? = some (.dict kvs)) → v ≠ .non := fun z e => by
      subst e
      cases rv with
      | dead f =>
        have := Y.dead _ f
        rcases z with ⟨_, z⟩ | ⟨_, z⟩ <;> (rw [this] at z; cases z)
    split at q
    · rename_i xs e; exact no (k := n) q (live (.inl ⟨_, e⟩))
    · rename_i xs e; exact no (k := n) q (live (.inr ⟨_, e⟩))
    · exact q.elim
  · rename_i x n1 n2
    refine no (k := n) q fun e => ?_
    subst e
    cases rv with
    | non => exact n1 rfl
    | dead f => exact n2 _ rfl
theorem is_of {n : Bool} {op : CmpOp} {m : M} {a : Expr} (h : DE X CL W c a m) : ∀ σ H Q, rd X.K CL W (relD X.K) c (mUn (dIsN n) m) σ H Q → rd X.K CL W (relD X.K) c m σ H fun x H1 => Q (.bl (n != decide (x = .non))) H1 :=
  fun σ H Q ⟨r, t, h, Y, S, q⟩ => (rd_bind Y S q).mono fun v H1 ⟨r1, h1, d, e1, Y1, S1, rv, q1⟩ => isN_of Y1 rv q1
theorem de_isN {m : M} {a : Expr} {j p1 pos} (h : DE X CL W c a m) : DE X CL W c (.Compare a [.Is] [.Constant .none j p1] pos) (mUn (dIsN false) m) :=
  pimp (pe_cmp (pc_isN h) rfl) fun σ H Q q => (is_of (op := .Is) h σ H Q q).mono fun v H1 q => by
    have e : (false != decide (v = .non)) = decide (v = .non) := by cases decide (v = .non) <;> rfl
    rw [e] at q; exact q
theorem de_notN {m : M} {a : Expr} {j p1 pos} (h : DE X CL W c a m) : DE X CL W c (.Compare a [.IsNot] [.Constant .none j p1] pos) (mUn (dIsN true) m) :=
  pimp (pe_cmp (pc_notN h) rfl) fun σ H Q q => (is_of (op := .Is) h σ H Q q).mono fun v H1 q => by
    have e : (true != decide (v = .non)) = !decide (v = .non) := by cases decide (v = .non) <;> rfl
    rw [e] at q; exact q
theorem dt_isN {m : M} {a : Expr} {j p1 pos} (h : DE X CL W c a m) : DT X CL W c (.Compare a [.Is] [.Constant .none j p1] pos) (tCmp (mUn (dIsN false) m)) :=
  timp (pt_cmp (pc_isN h) rfl) fun σ H Q ⟨r, t, h0, Y, S, q⟩ => (is_of (n := false) (op := .Is) h σ H _ ((rd_bind (rel1 := relD X.K) Y S q).mono fun v H1 ⟨r1, h1, d, e1, Y1, S1, rv, q1⟩ => dBl_rd Y1 rv q1)).mono fun v H1 q => by
    have e : (false != decide (v = .non)) = decide (v = .non) := by cases decide (v = .non) <;> rfl
    rw [e] at q; exact q
theorem dt_notN {m : M} {a : Expr} {j p1 pos} (h : DE X CL W c a m) : DT X CL W c (.Compare a [.IsNot] [.Constant .none j p1] pos) (tCmp (mUn (dIsN true) m)) :=
  timp (pt_cmp (pc_notN h) rfl) fun σ H Q ⟨r, t, h0, Y, S, q⟩ => (is_of (n := true) (op := .Is) h σ H _ ((rd_bind (rel1 := relD X.K) Y S q).mono fun v H1 ⟨r1, h1, d, e1, Y1, S1, rv, q1⟩ => dBl_rd Y1 rv q1)).mono fun v H1 q => by
    have e : (true != decide (v = .non)) = !decide (v = .non) := by cases decide (v = .non) <;> rfl
    rw [e] at q; exact q
end
end Ev

/-! Ev6: targets, iterators, loops, comprehensions. -/
namespace Ev
open PySem L2

/-! ### targets -/
inductive Tg where
  | nm (i : Nat) | tp (is : List Nat)
def setAll : Tau → List Nat → List D → Tau
  | t, i :: is, d :: ds => setAll (t.set i (some d)) is ds
  | t, _, _ => t
def asg : Tg → D → Tau → Option Tau
  | .nm i, d, t => some (t.set i (some d))
  | .tp is, .tup ds, t => if is.length = ds.length then some (setAll t is ds) else none
  | .tp _, _, _ => none
def Tg.own : Tg → List Nat
  | .nm i => [i]
  | .tp is => is
/-- only the slots of is may differ -/
def But (is : List Nat) (σ σ' : L2.St) : Prop := σ'.length = σ.length ∧ ∀ j, j ∉ is → σ'[j]? = σ[j]?
theorem But.refl (is : List Nat) (σ : L2.St) : But is σ σ := ⟨rfl, fun _ _ => rfl⟩
theorem But.trans {is : List Nat} {a b c : L2.St} (x : But is a b) (y : But is b c) : But is a c := ⟨y.1.trans x.1, fun j h => (y.2 j h).trans (x.2 j h)⟩
theorem But.mono {is js : List Nat} {a b : L2.St} (x : But is a b) (h : ∀ i ∈ is, i ∈ js) : But js a b := ⟨x.1, fun j n => x.2 j fun m => n (h j m)⟩
theorem But.set {is : List Nat} {a : L2.St} {i : Nat} {v : Option V} (h : i ∈ is) : But is a (a.set i v) :=
  ⟨by simp, fun j n => by rw [List.getElem?_set_ne]; rintro rfl; exact n h⟩
abbrev TGD (K : PySem.W.Frag) (g : Tg) : TG := fun v σ H Q => ∃ r t h d t', R K r h H ∧ Slots K H r σ t ∧ Rep K H r v d ∧ asg g d t = some t' ∧ ∀ σ', Slots K H r σ' t' → But g.own σ σ' → Q σ' H
abbrev DG (X : Cx) (e : Expr) (g : Tg) : Prop := PG X e (TGD X.K g)
section
variable {X : Cx}
theorem pgimp {e : Expr} {t u : TG} (h : PG X e t) (i : ∀ v σ H Q, u v σ H Q → t v σ H Q) : PG X e u := ⟨fun pins s σ H v u Q I r q => h.run pins s σ H v u Q I r (i _ _ _ _ q)⟩
theorem dg_nm {i : Nat} {x : Str} {pos} (hN : X.N.Nodup) (hi : X.N[i]? = some x) (hx : Loc X.env.scope x) (hf : X.fn x = true ∨ X.env.scope.names.lookup x = some .local) : DG X (.Name x pos) (.nm i) :=
  pgimp (pg_name hN hi hx hf) fun v σ H Q ⟨r, t, h, d, t', Y, S, rv, e, q⟩ => by
    unfold asg at e
    cases e
    exact q _ (S.set i rv) (.set (by simp [Tg.own]))
/-- names, each with its slot -/
inductive Nms (X : Cx) : List Expr → List Nat → Prop
  | nil : Nms X [] []
  | cons {x : Str} {pos : Pos} {i : Nat} {es : List Expr} {is : List Nat} : X.N[i]? = some x → Loc X.env.scope x → (X.fn x = true ∨ X.env.scope.names.lookup x = some .local) → Nms X es is → Nms X (.Name x pos :: es) (i :: is)
abbrev gAll (K : PySem.W.Frag) (is : List Nat) : TGs := fun vs σ H Q => ∃ r t h ds, R K r h H ∧ Slots K H r σ t ∧ RepA K H r vs ds ∧ is.length = ds.length ∧ ∀ σ', Slots K H r σ' (setAll t is ds) → But is σ σ' → Q σ' H
theorem pgsimp {e : List Expr} {t u : TGs} (h : PGs X e t) (i : ∀ v σ H Q, u v σ H Q → t v σ H Q) : PGs X e u := ⟨fun pins s σ H v u Q I r q => h.run pins s σ H v u Q I r (i _ _ _ _ q)⟩
theorem Nms.pgs (hN : X.N.Nodup) : ∀ {es : List Expr} {is : List Nat}, Nms X es is → PGs X es (gAll X.K is)
  | _, _, .nil => pgsimp pgs_nil fun vs σ H Q ⟨r, t, h, ds, Y, S, rv, e, q⟩ => by
    cases ds with
    | cons d ds => cases e
    | nil =>
      cases rv
      exact ⟨rfl, q _ S (But.refl _ _)⟩
  | _, _, .cons (i := i) (is := is) h1 h2 h3 k => pgsimp (pgs_cons (pg_name hN h1 h2 h3) (Nms.pgs hN k)) fun vs σ H Q ⟨r, t, h, ds, Y, S, rv, e, q⟩ => by
    cases ds with
    | nil => cases e
    | cons d ds =>
      cases rv with
      | cons rv rvs =>
        refine ⟨_, _, rfl, r, t.set i (some d), h, ds, Y, S.set i rv, rvs, by simpa using e, fun σ' S' b => q σ' S' ?_⟩
        exact (But.set (by simp)).trans (b.mono fun j m => List.mem_cons_of_mem _ m)
theorem Nms.len : ∀ {es : List Expr} {is : List Nat}, Nms X es is → (assignEach es X.env).length = is.length ∧ (assignEach es X.env).findIdx? (·.1) = none
  | _, _, .nil => ⟨rfl, rfl⟩
  | _, _, .cons h1 h2 h3 k => by
    obtain ⟨a, b⟩ := Nms.len k
    refine ⟨by simp [assignEach, a], ?_⟩
    simp only [assignEach, List.findIdx?_cons, b]
    rfl
theorem dg_tp {es : List Expr} {is : List Nat} {k pos} (hc : X.calm = true) (hN : X.N.Nodup) (n : Nms X es is) : DG X (.Tuple es k pos) (.tp is) :=
  pgimp (pg_tup hc (n.pgs hN) n.len.1 n.len.2) fun v σ H Q ⟨r, t, h, d, t', Y, S, rv, e, q⟩ => by
    cases d with
    | tup ds =>
      cases rv with
      | tup f k =>
        have e : (if is.length = ds.length then some (setAll t is ds) else none) = some t' := e
        by_cases hl : is.length = ds.length
        · rw [if_pos hl] at e
          cases e
          exact ⟨_, _, rfl, f.seq, by rw [k.len]; exact hl.symm, r, t, h, ds, Y, S, k, hl, fun σ' S' b => q σ' S' b⟩
        · rw [if_neg hl] at e; cases e
    | _ => unfold asg at e; cases e
end

/-! ### what is walked -/
structure Src where
  items : List D
  g : Option (Nat × List D)
def Src.ok (s : Src) (h : Hd) : Prop := match s.g with
  | none => True
  | some p => h[p.1]? = some (.lst p.2)
abbrev MI := Calls → Tau → Hd → Res Src
def relI (K : PySem.W.Frag) : Rl It Src := fun H r J s => ∃ G : Rho → Hp → Prop, G r H ∧
  (∀ (i : Nat) (r : Rho) (h : Hd) (H : Hp), R K r h H → G r H → s.ok h → (∀ d, s.items[i]? = some d → J.go i H ∧ ∀ x H', J.yld i H x H' → H' = H ∧ Rep K H r x d) ∧ (s.items.length ≤ i → J.stop i H)) ∧
  (∀ (r : Rho) (H : Hp) (r' : Rho) (h' : Hd) (H' : Hp), G r H → Ext r H r' H' → R K r' h' H' → s.ok h' → G r' H') ∧
  ∀ (r : Rho) (H : Hp) (r' : Rho) (H' : Hp), G r H → Shift r H r' H' → G r' H'
abbrev DI (X : Cx) (CL : List XC) (W : WX) (c : Calls) (tg e : Expr) (m : MI) : Prop := PI X tg e (rd X.K CL W (relI X.K) c m)
def dIter (d : D) (h : Hd) : Res Src :=
  match d with
  | .lst xs => .ok ⟨xs, none⟩ h
  | .scr xs => .ok ⟨xs, none⟩ h
  | .tup xs => .ok ⟨xs, none⟩ h
  | .str s => .ok ⟨s.map fun ch => .str [ch], none⟩ h
  | .ref i => match h[i]? with
    | some (.lst xs) => .ok ⟨xs, some (i, xs)⟩ h
    | _ => .stuck
  | _ => .stuck
def iVal (m : M) : MI := fun c t h => (m c t h).bind dIter
def rngD (lo : Int) (n : Nat) : List D := (List.range n).map fun (k : Nat) => .int (lo + (k : Int))
def dRng1 (d : D) (h : Hd) : Res Src :=
  match d with
  | .int j => if -(2 ^ 62) ≤ j ∧ j < 2 ^ 62 then .ok ⟨rngD 0 j.toNat, none⟩ h else .stuck
  | _ => .stuck
def dRng2 (d e : D) (h : Hd) : Res Src :=
  match d, e with
  | .int i, .int j => if (-(2 ^ 62) ≤ i ∧ i < 2 ^ 62) ∧ -(2 ^ 62) ≤ j ∧ j < 2 ^ 62 then .ok ⟨rngD i (j - i).toNat, none⟩ h else .stuck
  | _, _ => .stuck
def iRng1 (m : M) : MI := fun c t h => (m c t h).bind dRng1
def iRng2 (a b : M) : MI := fun c t h => (a c t h).bind fun x h1 => (b c t h1).bind fun y h2 => dRng2 x y h2
def dRev (d : D) (h : Hd) : Res Src :=
  match d with
  | .lst xs => .ok ⟨xs.reverse, none⟩ h
  | .tup xs => .ok ⟨xs.reverse, none⟩ h
  | .ref i => match h[i]? with
    | some (.lst xs) => .ok ⟨xs.reverse, some (i, xs)⟩ h
    | _ => .stuck
  | _ => .stuck
def iRevV (m : M) : MI := fun c t h => (m c t h).bind dRev
section
variable {X : Cx} {CL : List XC} {W : WX} {c : Calls} {tg : Expr}
theorem piimp {e : Expr} {t u : TI} (h : PI X tg e t) (i : ∀ σ H Q, u σ H Q → t σ H Q) : PI X tg e u := ⟨fun pins s σ H Q I q => h.run pins s σ H Q I (i _ _ _ q)⟩
theorem pi_or' {e : Expr} {t u : TI} (h : PI X tg e t) (k : PI X tg e u) : PI X tg e (fun σ H Q => t σ H Q ∨ u σ H Q) := ⟨fun pins s σ H Q I q => q.elim (h.run pins s σ H Q I) (k.run pins s σ H Q I)⟩
theorem walk_list {K : PySem.W.Frag} {H : Hp} {r : Rho} {a : Addr} {vs : List V} {ds : List D} (f : FzL H r a vs) (k : RepA K H r vs ds) : relI K H r (Itl K a) ⟨ds, none⟩ := by
  refine ⟨fun r H => ∃ vs, FzL H r a vs ∧ RepA K H r vs ds, ⟨vs, f, k⟩, fun i r h H Y ⟨vs, f, k⟩ _ => ⟨fun d e => ?_, fun hl => ?_⟩, fun r H r' h' H' ⟨vs, f, k⟩ x _ _ => ⟨vs, x.fzl f, k.mono x⟩, fun r H r' H' ⟨vs, f, k⟩ x => ⟨vs, x.fzl f, k.shift x⟩⟩
  · obtain ⟨v, e1, rv⟩ := k.get' e
    refine ⟨⟨vs, v, f.seq, e1⟩, fun x H' ⟨e2, e3⟩ => ⟨e2, ?_⟩⟩
    have := e3 vs f.seq
    rw [e1] at this; cases this
    exact rv
  · exact ⟨vs, f.seq, by rw [k.len]; exact hl⟩
theorem walk_scr {K : PySem.W.Frag} {H : Hp} {r : Rho} {a : Addr} {vs : List V} {ds : List D} (f : FzS K H r a vs) (k : RepA K H r vs ds) : relI K H r (Itl K a) ⟨ds, none⟩ := by
  refine ⟨fun r H => ∃ vs, FzS K H r a vs ∧ RepA K H r vs ds, ⟨vs, f, k⟩, fun i r h H Y ⟨vs, f, k⟩ _ => ⟨fun d e => ?_, fun hl => ?_⟩, fun r H r' h' H' ⟨vs, f, k⟩ x _ _ => ⟨vs, x.fzs f, k.mono x⟩, fun r H r' H' ⟨vs, f, k⟩ x => ⟨vs, x.fzs f, k.shift x⟩⟩
  · obtain ⟨v, e1, rv⟩ := k.get' e
    refine ⟨⟨vs, v, f.seq, e1⟩, fun x H' ⟨e2, e3⟩ => ⟨e2, ?_⟩⟩
    have := e3 vs f.seq
    rw [e1] at this; cases this
    exact rv
  · exact ⟨vs, f.seq, by rw [k.len]; exact hl⟩
theorem walk_tup {K : PySem.W.Frag} {H : Hp} {r : Rho} {a : Addr} {vs : List V} {ds : List D} (f : FzT K H r a vs) (k : RepA K H r vs ds) : relI K H r (Itt K a) ⟨ds, none⟩ := by
  refine ⟨fun r H => ∃ vs, FzT K H r a vs ∧ RepA K H r vs ds, ⟨vs, f, k⟩, fun i r h H Y ⟨vs, f, k⟩ _ => ⟨fun d e => ?_, fun hl => ?_⟩, fun r H r' h' H' ⟨vs, f, k⟩ x _ _ => ⟨vs, x.fzt f, k.mono x⟩, fun r H r' H' ⟨vs, f, k⟩ x => ⟨vs, x.fzt f, k.shift x⟩⟩
  · obtain ⟨v, e1, rv⟩ := k.get' e
    refine ⟨⟨vs, v, f.seq, e1⟩, fun x H' ⟨e2, e3⟩ => ⟨e2, ?_⟩⟩
    have := e3 vs f.seq
    rw [e1] at this; cases this
    exact rv
  · exact ⟨vs, f.seq, by rw [k.len]; exact hl⟩
theorem open_at {K : PySem.W.Frag} {H : Hp} {r : Rho} {h : Hd} {a : Addr} {i0 : Nat} {ds : List D} (Y : R K r h H) (e : r.l[i0]? = some (some a)) (g : h[i0]? = some (.lst ds)) : ∃ vs, SqL K H a vs ∧ RepA K H r vs ds := by
  obtain ⟨o, h1, h2⟩ := Y.get _ _ e
  rw [g] at h1; cases h1
  obtain ⟨vs, h3, h4⟩ := h2
  exact ⟨vs, .inl (.inl h3), h4⟩
theorem open_stays {K : PySem.W.Frag} {H H' : Hp} {r r' : Rho} {h' : Hd} {a : Addr} {i0 : Nat} {ds : List D} (e : r.l[i0]? = some (some a)) (x : Ext r H r' H') (Y' : R K r' h' H') (g : h'[i0]? = some (.lst ds)) : r'.l[i0]? = some (some a) := by
  rcases x.pre _ _ e with z | z
  · exact z
  · have := Y'.dead _ z
    rw [g] at this; cases this
theorem walk_ref {K : PySem.W.Frag} {H : Hp} {r : Rho} {a : Addr} {i0 : Nat} {ds : List D} (e0 : r.l[i0]? = some (some a)) : relI K H r (Itl K a) ⟨ds, some (i0, ds)⟩ := by
  refine ⟨fun r H => r.l[i0]? = some (some a), e0, fun i r h H Y e g => ?_, fun r H r' h' H' e x Y' g => open_stays e x Y' g, fun r H r' H' e x => x.pre _ _ e⟩
  obtain ⟨vs, f, k⟩ := open_at Y e g
  refine ⟨fun d e => ?_, fun hl => ⟨vs, f, by rw [k.len]; exact hl⟩⟩
  obtain ⟨v, e1, rv⟩ := k.get' e
  refine ⟨⟨vs, v, f, e1⟩, fun x H' ⟨e2, e3⟩ => ⟨e2, ?_⟩⟩
  have := e3 vs f
  rw [e1] at this; cases this
  exact rv
theorem walk_str {K : PySem.W.Frag} {H : Hp} {r : Rho} {x : Str} (ok : SOk x) : relI K H r (Its x) ⟨x.cps.toList.map fun ch => .str [ch], none⟩ := by
  refine ⟨fun _ _ => True, trivial, fun i r h H Y _ _ => ⟨fun d e => ?_, fun hl => ?_⟩, fun _ _ _ _ _ _ _ _ _ => trivial, fun _ _ _ _ _ _ => trivial⟩
  · rw [List.getElem?_map] at e
    cases q : x.cps.toList[i]? with
    | none => rw [q] at e; cases e
    | some ch =>
      rw [q] at e; cases e
      have hi : i < x.cps.size := by
        have := (List.getElem?_eq_some_iff.mp q).1
        simpa using this
      refine ⟨hi, fun v H' ⟨e2, c', e3, e4⟩ => ⟨e2, ?_⟩⟩
      subst e4
      have : c' = ch := by
        have q' := q
        rw [Array.getElem?_toList] at q'
        rw [q'] at e3; cases e3; rfl
      subst this
      exact .str ⟨#[c']⟩ (sOk_one ok q)
  · rw [List.length_map, Array.length_toList] at hl
    exact hl
theorem walk_rng {K : PySem.W.Frag} {H : Hp} {r : Rho} {lo : Int} {n : Nat} : relI K H r (Itr lo n) ⟨rngD lo n, none⟩ := by
  refine ⟨fun _ _ => True, trivial, fun i r h H Y _ _ => ⟨fun d e => ?_, fun hl => ?_⟩, fun _ _ _ _ _ _ _ _ _ => trivial, fun _ _ _ _ _ _ => trivial⟩
  · have e : (rngD lo n)[i]? = some d := e
    unfold rngD at e
    rw [List.getElem?_map] at e
    have hi : i < n := by
      cases q : (List.range n)[i]? with
      | none => rw [q] at e; cases e
      | some k => have := (List.getElem?_eq_some_iff.mp q).1; simpa using this
    rw [List.getElem?_range hi] at e
    cases e
    refine ⟨hi, fun v H' ⟨e2, e3⟩ => ⟨e2, ?_⟩⟩
    subst e3
    exact .int _
  · have hl : (rngD lo n).length ≤ i := hl
    unfold rngD at hl
    rw [List.length_map, List.length_range] at hl
    exact hl
/-- what can be walked: a list, a tuple, a text -/
def iAny (K : PySem.W.Frag) (te : TE) : TI := fun σ H R => te σ H fun v H1 => (∃ a, v = .ref a ∧ (∃ xs, SqL K H1 a xs) ∧ R (Itl K a) H1) ∨ (∃ a, v = .ref a ∧ (∃ xs, SqT K H1 a xs) ∧ R (Itt K a) H1) ∨ ∃ x, v = .str x ∧ R (Its x) H1
theorem pi_any {e : Expr} {te : TE} (he : PE X e te) : PI X tg e (iAny X.K te) := by
  refine ⟨fun pins s σ H R I h => ?_⟩
  refine thn (he.run pins s σ H _ I h) fun v s1 ⟨y, H1, I1, r1, q1⟩ => ?_
  rcases q1 with ⟨a, rfl, ⟨xs, hq⟩, q⟩ | ⟨a, rfl, ⟨xs, hq⟩, q⟩ | ⟨x, rfl, q⟩
  · cases r1
    obtain ⟨its, rv, p, _⟩ := I1.list hq
    exact wpAny_pyIter_list p.isList (pi_one (tk := s1.toks) I1 _ (turn_list a _) ⟨_, Heap.get?_push_size _ rfl, rfl, rfl⟩ q)
  · cases r1
    obtain ⟨its, rv, p, _⟩ := I1.tuple hq
    exact wpAny_pyIter_tuple (show s1.heap.IsTuple a its.toArray from p) (pi_one (tk := s1.toks) I1 _ (turn_tuple a _) ⟨_, Heap.get?_push_size _ rfl, rfl, rfl⟩ q)
  · obtain ⟨t, rfl⟩ := r1
    cases ha : x.cps.all (· < 128) with
    | false => exact wpAny_pyIter_wide ha (pi_one (tk := s1.toks) I1 _ (turn_str _ x t "str_iterator" (.inr rfl)) ⟨_, Heap.get?_push_size _ rfl, rfl, rfl⟩ q)
    | true => exact wpAny_pyIter_ascii ha (pi_one (tk := s1.toks) I1 _ (turn_str _ x t "str_ascii_iterator" (.inl rfl)) ⟨_, Heap.get?_push_size _ rfl, rfl, rfl⟩ q)
theorem di_val {e : Expr} {m : M} (h : DE X CL W c e m) : DI X CL W c tg e (iVal m) :=
  piimp (pi_any (tg := tg) h) fun σ H Q ⟨r, t, h0, Y, S, q⟩ => (rd_bind Y S q).mono fun v H1 ⟨r1, h1, d, e1, Y1, S1, rv, q1⟩ => by
    unfold dIter at q1
    split at q1
    · cases rv with
      | lst f k => exact .inl ⟨_, rfl, ⟨_, f.seq⟩, q1.now Y1 (walk_list f k)⟩
    · cases rv with
      | scr f k => exact .inl ⟨_, rfl, ⟨_, f.seq⟩, q1.now Y1 (walk_scr f k)⟩
    · cases rv with
      | tup f k => exact .inr (.inl ⟨_, rfl, ⟨_, f.seq⟩, q1.now Y1 (walk_tup f k)⟩)
    · obtain ⟨x, rfl, rfl, ok⟩ := rep_str rv
      exact .inr (.inr ⟨x, rfl, q1.now Y1 (walk_str ok)⟩)
    · split at q1
      · rename_i i xs e
        cases rv with
        | ref f =>
          obtain ⟨vs, f1, k⟩ := open_at Y1 f e
          exact .inl ⟨_, rfl, ⟨_, f1⟩, q1.now Y1 (walk_ref f)⟩
        | dead f =>
          have := Y1.dead _ f
          rw [e] at this; cases this
      · exact q1.elim
    · exact q1.elim
theorem di_rng1 {a : Expr} {m : M} {p pos : Pos} (hg : Gl X "range") (hm : X.mg "range" = none) (ha : DE X CL W c a m) (hs : starEach [a] X.env = [(false, eval a X.env)]) : DI X CL W c tg (.Call (.Name "range" p) [a] [] pos) (iRng1 m) :=
  piimp (pi_range1 hg hm (pa_cons ha pa_nil hs) hs) fun σ H Q ⟨r, t, h0, Y, S, q⟩ => (rd_bind Y S q).mono fun v H1 ⟨r1, h1, d, e1, Y1, S1, rv, q1⟩ => by
    unfold dRng1 at q1
    split at q1
    · rename_i j
      split at q1
      · rename_i hb
        cases rv
        exact ⟨j, rfl, hb.1, hb.2, q1.now Y1 walk_rng⟩
      · exact q1.elim
    · exact q1.elim
theorem di_rng2 {a b : Expr} {ma mb : M} {p pos : Pos} (hg : Gl X "range") (hm : X.mg "range" = none) (ha : DE X CL W c a ma) (hb : DE X CL W c b mb) (hs : starEach [a, b] X.env = [(false, eval a X.env), (false, eval b X.env)]) (hs2 : starEach [b] X.env = [(false, eval b X.env)]) :
    DI X CL W c tg (.Call (.Name "range" p) [a, b] [] pos) (iRng2 ma mb) :=
  piimp (pi_range2 hg hm (pa_cons ha (pa_cons hb pa_nil hs2) (by rw [hs, hs2])) hs hs2) fun σ H Q ⟨r, t, h0, Y, S, q⟩ => (rd_bind Y S q).mono fun v H1 ⟨r1, h1, d, e1, Y1, S1, rv, q1⟩ => (rd_bind Y1 S1 q1).mono fun u H2 ⟨r2, h2, e, e2, Y2, S2, ru, q2⟩ => by
    unfold dRng2 at q2
    split at q2
    · split at q2
      · rename_i hb
        cases rv
        cases ru
        exact ⟨_, _, rfl, ⟨hb.1.1, hb.1.2, hb.2.1, hb.2.2⟩, q2.now Y2 walk_rng⟩
      · exact q2.elim
    · exact q2.elim
theorem walk_of_rev {K : PySem.W.Frag} {J : It} {G : Rho → Hp → Prop} {ds : List D} {r : Rho} {H : Hp} {g : Option (Nat × List D)} (g0 : G r H)
    (hy : ∀ (r : Rho) (h : Hd) (H : Hp), R K r h H → G r H → (Src.mk ds.reverse g).ok h → ∃ vs, RepA K H r vs ds ∧ (∀ i x, i < vs.length → vs[vs.length - 1 - i]? = some x → J.go i H) ∧ (∀ i x H', J.yld i H x H' → H' = H ∧ vs[vs.length - 1 - i]? = some x) ∧ ∀ i, vs.length ≤ i → J.stop i H)
    (st : ∀ (r : Rho) (H : Hp) (r' : Rho) (h' : Hd) (H' : Hp), G r H → Ext r H r' H' → R K r' h' H' → (Src.mk ds.reverse g).ok h' → G r' H') (sf : ∀ (r : Rho) (H : Hp) (r' : Rho) (H' : Hp), G r H → Shift r H r' H' → G r' H') : relI K H r J ⟨ds.reverse, g⟩ := by
  refine ⟨G, g0, fun i r h H Y z ok => ?_, st, sf⟩
  obtain ⟨vs, k, h1, h2, h3⟩ := hy r h H Y z ok
  have kl := k.len
  refine ⟨fun d e => ?_, fun hl => h3 i (by rw [List.length_reverse] at hl; omega)⟩
  have hi : i < ds.length := by have := (List.getElem?_eq_some_iff.mp e).1; simpa using this
  have e' : ds[ds.length - 1 - i]? = some d := by rw [← List.getElem?_reverse hi]; exact e
  obtain ⟨v, e1, rv⟩ := k.get' e'
  rw [← kl] at e1
  refine ⟨h1 i v (by omega) e1, fun x H' y => ?_⟩
  obtain ⟨e2, e3⟩ := h2 i x H' y
  rw [e1] at e3; cases e3
  exact ⟨e2, rv⟩
theorem di_rev {e : Expr} {m : M} {p pos : Pos} (hg : Gl X "reversed") (hm : X.mg "reversed" = none) (he : DE X CL W c e m) (hs : starEach [e] X.env = (false, eval e X.env) :: starEach [] X.env) : DI X CL W c tg (.Call (.Name "reversed" p) [e] [] pos) (iRevV m) :=
  piimp (RT.pi_revA hg hm he hs) fun σ H Q ⟨r, t, h0, Y, S, q⟩ => (rd_bind Y S q).mono fun v H1 ⟨r1, h1, d, e1, Y1, S1, rv, q1⟩ => by
    unfold dRev at q1
    split at q1
    · rename_i xs
      cases rv with
      | @lst a vs _ f k =>
        refine ⟨a, vs, rfl, .inl ⟨f.seq, q1.now Y1 (walk_of_rev (G := fun r H => FzL H r a vs ∧ RepA X.K H r vs xs) ⟨f, k⟩ (fun r h H Y ⟨f, k⟩ _ => ⟨vs, k, fun i x hi e => ?_, fun i x H' ⟨e, e2⟩ => ⟨e, e2 vs f.seq⟩, fun i hi => hi⟩) (fun r H r' h' H' ⟨f, k⟩ x _ _ => ⟨x.fzl f, k.mono x⟩) fun r H r' H' ⟨f, k⟩ x => ⟨x.fzl f, k.shift x⟩)⟩⟩
        exact ⟨hi, vs, x, f.seq, e⟩
    · rename_i xs
      cases rv with
      | @tup a vs _ f k =>
        refine ⟨a, vs, rfl, .inr ⟨f.seq, q1.now Y1 (walk_of_rev (G := fun r H => FzT X.K H r a vs ∧ RepA X.K H r vs xs) ⟨f, k⟩ (fun r h H Y ⟨f, k⟩ _ => ⟨vs, k, fun i x hi e => ?_, fun i x H' ⟨e, e2⟩ => ⟨e, e2 vs f.seq⟩, fun i hi => hi⟩) (fun r H r' h' H' ⟨f, k⟩ x _ _ => ⟨x.fzt f, k.mono x⟩) fun r H r' H' ⟨f, k⟩ x => ⟨x.fzt f, k.shift x⟩)⟩⟩
        exact ⟨hi, vs, x, f.seq, e⟩
    · rename_i i0
      split at q1
      · rename_i xs e0
        cases rv with
        | @ref a _ f =>
          obtain ⟨vs, f1, k⟩ := open_at Y1 f e0
          refine ⟨a, vs, rfl, .inl ⟨f1, q1.now Y1 (walk_of_rev (G := fun (r : Rho) _ => r.l[i0]? = some (some a)) f (fun r hh H Y f g => ?_) (fun r H r' h' H' f x Y' g => open_stays f x Y' g) fun r H r' H' f x => x.pre _ _ f)⟩⟩
          obtain ⟨us, f2, k2⟩ := open_at (h := hh) Y f g
          have hl : vs.length = us.length := by rw [k.len, k2.len]
          rw [hl]
          exact ⟨us, k2, fun i x hi e => ⟨hi, us, x, f2, e⟩, fun i x H' ⟨e, e2⟩ => ⟨e, e2 us f2⟩, fun i hi => hi⟩
        | dead f =>
          have := Y1.dead _ f
          rw [e0] at this; cases this
      · exact q1.elim
    · exact q1.elim
end
end Ev

/-! Ev7: statements. -/
namespace Ev
open PySem L2

/-- how a statement ends -/
inductive SR where
  | nx (t : Tau) (h : Hd) | rt (d : D) (h : Hd) | bk (t : Tau) (h : Hd) | ct (t : Tau) (h : Hd) | exn (c : Nat) (fs : List D) (t : Tau) (h : Hd) | stuck
abbrev MS := Calls → Tau → Hd → SR
def Res.toS {α : Type} (x : Res α) (t : Tau) (k : α → Hd → SR) : SR :=
  match x with
  | .ok a h => k a h
  | .exn c fs h => .exn c fs t h
  | .stuck => .stuck
def SR.seq (x : SR) (k : Tau → Hd → SR) : SR :=
  match x with
  | .nx t h => k t h
  | .rt d h => .rt d h
  | .bk t h => .bk t h
  | .ct t h => .ct t h
  | .exn c fs t h => .exn c fs t h
  | .stuck => .stuck
/-- a loop's turn, then the rest -/
def SR.turn (x : SR) (k : Tau → Hd → SR) : SR :=
  match x with
  | .nx t h => k t h
  | .ct t h => k t h
  | .bk t h => .nx t h
  | .rt d h => .rt d h
  | .exn c fs t h => .exn c fs t h
  | .stuck => .stuck
def sNil : MS := fun _ t h => .nx t h
def sSeq (a b : MS) : MS := fun c t h => (a c t h).seq fun t' h' => b c t' h'
def sExpr (m : M) : MS := fun c t h => (m c t h).toS t fun _ h' => .nx t h'
def sRet (m : M) : MS := fun c t h => (m c t h).toS t fun d h' => .rt d h'
def sRetN : MS := fun _ _ h => .rt .non h
def sBreak : MS := fun _ t h => .bk t h
def sCont : MS := fun _ t h => .ct t h
def sSet (i : Nat) (m : M) : MS := fun c t h => (m c t h).toS t fun d h' => .nx (t.set i (some d)) h'
def sAsg (g : Tg) (m : M) : MS := fun c t h => (m c t h).toS t fun d h' => match asg g d t with
  | some t' => .nx t' h'
  | none => .stuck
def sIf (k : MB) (a b : MS) : MS := fun c t h => (k c t h).toS t fun z h' => if z then a c t h' else b c t h'
open Classical in
noncomputable def forL (s : Src) (step : D → Tau → Hd → SR) : List D → Tau → Hd → SR
  | [], t, h => if s.ok h then .nx t h else .stuck
  | d :: ds, t, h => if s.ok h then (step d t h).turn (forL s step ds) else .stuck
noncomputable def sFor (it : MI) (g : Tg) (b : MS) : MS := fun c t h => (it c t h).toS t fun s h' => forL s (fun d t h => match asg g d t with
  | some t' => b c t' h
  | none => .stuck) s.items t h'
def whileL (k : MB) (b : MS) (c : Calls) : Nat → Tau → Hd → SR
  | 0, _, _ => .stuck
  | n + 1, t, h => (k c t h).toS t fun z h' => if z then (b c t h').turn (whileL k b c n) else .nx t h'
def bigN : Nat := 1000000000
def sWhile (k : MB) (b : MS) : MS := fun c t h => whileL k b c bigN t h
/-- o[i] = e -/
def dSet (o i v : D) (h : Hd) : Res Unit :=
  match o with
  | .ref a => match h[a]? with
    | some (.lst xs) => match i with
      | .int n => match ixI xs.length n with
        | some j => .ok () (h.set a (.lst (xs.set j v)))
        | none => .stuck
      | _ => .stuck
    | _ => .stuck
  | _ => .stuck
def sSub (o i m : M) : MS := fun c t h => (m c t h).toS t fun v h1 => (o c t h1).toS t fun x h2 => (i c t h2).toS t fun y h3 => (dSet x y v h3).toS t fun _ h4 => .nx t h4

section
variable (K : PySem.W.Frag) (CL : List XC) (W : WX)
def rdS (r : Rho) (H : Hp) (E : Ends) : SR → Prop
  | .nx t h => ∀ σ' r' H', Ext r H r' H' → R K r' h H' → Slots K H' r' σ' t → E.nx σ' H'
  | .rt d h => ∀ v r' H', Ext r H r' H' → R K r' h H' → Rep K H' r' v d → E.rt v H'
  | .bk t h => ∀ σ' r' H', Ext r H r' H' → R K r' h H' → Slots K H' r' σ' t → E.bk σ' H'
  | .ct t h => ∀ σ' r' H', Ext r H r' H' → R K r' h H' → Slots K H' r' σ' t → E.ct σ' H'
  | .exn c fs t h => ∀ cls dd σ' r' H', Ext r H r' H' → R K r' h H' → Slots K H' r' σ' t → ExR K CL H' r' c fs cls dd → W cls dd σ' H'
  | .stuck => False
def rs (c : Calls) (m : MS) : TS := fun E σ H => ∃ r t h, R K r h H ∧ Slots K H r σ t ∧ rdS K CL W r H E (m c t h)
end
section
variable {K : PySem.W.Frag} {CL : List XC} {W : WX} {c : Calls}
theorem rdS.ext {r r1 : Rho} {H H1 : Hp} {E : Ends} {x : SR} (e : Ext r H r1 H1) (q : rdS K CL W r H E x) : rdS K CL W r1 H1 E x := by
  cases x with
  | nx t h => exact fun σ' r' H' a => q σ' r' H' (e.trans a)
  | rt d h => exact fun σ' r' H' a => q σ' r' H' (e.trans a)
  | bk t h => exact fun σ' r' H' a => q σ' r' H' (e.trans a)
  | ct t h => exact fun σ' r' H' a => q σ' r' H' (e.trans a)
  | exn c fs t h => exact fun cls dd σ' r' H' a => q cls dd σ' r' H' (e.trans a)
  | stuck => exact q
theorem rs_bind {α β : Type} {rel : Rl β α} {r : Rho} {H : Hp} {h : Hd} {t : Tau} {σ : L2.St} {E : Ends} {m : Calls → Tau → Hd → Res α} {k : α → Hd → SR}
    (x : R K r h H) (s : Slots K H r σ t) (q : rdS K CL W r H E ((m c t h).toS t k)) :
    rd K CL W rel c m σ H fun v H1 => ∃ r1 h1 d, Ext r H r1 H1 ∧ R K r1 h1 H1 ∧ Slots K H1 r1 σ t ∧ rel H1 r1 v d ∧ rdS K CL W r1 H1 E (k d h1) := by
  refine ⟨r, t, h, x, s, ?_⟩
  cases e : m c t h with
  | ok d h' =>
    rw [e] at q
    exact fun v r' H' e1 x' rv => ⟨r', h', d, e1, x', s.mono e1, rv, rdS.ext e1 q⟩
  | exn c fs h' =>
    rw [e] at q
    exact fun cls dd r' H' a b d => q cls dd σ r' H' a b (s.mono a) d
  | stuck =>
    rw [e] at q
    exact q
theorem rdS.nx {r : Rho} {H : Hp} {h : Hd} {t : Tau} {σ : L2.St} {E : Ends} (q : rdS K CL W r H E (.nx t h)) (x : R K r h H) (s : Slots K H r σ t) : E.nx σ H := q σ r H (Ext.refl r H) x s
end
section
variable {X : Cx} {CL : List XC} {W : WX} {c : Calls}
abbrev DS (X : Cx) (CL : List XC) (W : WX) (c : Calls) (st : Stmt) (m : MS) : Prop := PS X st (rs X.K CL W c m)
abbrev DSs (X : Cx) (CL : List XC) (W : WX) (c : Calls) (st : List Stmt) (m : MS) : Prop := PSs X st (rs X.K CL W c m)
theorem psimp {e : Stmt} {t u : TS} (h : PS X e t) (i : ∀ E σ H, u E σ H → t E σ H) : PS X e u := ⟨fun pins s σ H Q I q => h.run pins s σ H Q I (i _ _ _ q)⟩
theorem pssimp {e : List Stmt} {t u : TS} (h : PSs X e t) (i : ∀ E σ H, u E σ H → t E σ H) : PSs X e u := ⟨fun pins s σ H Q I q => h.run pins s σ H Q I (i _ _ _ q)⟩
theorem ds_nil : DSs X CL W c [] sNil := pssimp pss_nil fun E σ H ⟨r, t, h, Y, S, q⟩ => q.nx Y S
theorem seq_of {a b : MS} {E : Ends} {σ : L2.St} {H : Hp} (q : rs X.K CL W c (sSeq a b) E σ H) : rs X.K CL W c a { E with nx := rs X.K CL W c b E } σ H := by
  obtain ⟨r, t, h, Y, S, q⟩ := q
  refine ⟨r, t, h, Y, S, ?_⟩
  unfold sSeq at q
  cases e : a c t h with
  | nx t' h' => rw [e] at q; exact fun σ' r' H' x Y' S' => ⟨r', t', h', Y', S', rdS.ext x q⟩
  | rt d h => rw [e] at q; exact q
  | bk t h => rw [e] at q; exact q
  | ct t h => rw [e] at q; exact q
  | exn a b c d => rw [e] at q; exact q
  | stuck => rw [e] at q; exact q
theorem ds_cons {st : Stmt} {rest : List Stmt} {a b : MS} (h1 : DS X CL W c st a) (h2 : DSs X CL W c rest b) : DSs X CL W c (st :: rest) (sSeq a b) := pssimp (pss_cons h1 h2) fun _ _ _ q => seq_of q
theorem ds_one {st : Stmt} {a : MS} (h1 : DS X CL W c st a) : DSs X CL W c [st] a := pss_one h1
theorem ds_expr {e : Expr} {m : M} {pos} (h : DE X CL W c e m) (hs : swapsWith e none pos.line X.env = pure false) : DS X CL W c (.Expr e pos) (sExpr m) :=
  psimp (ps_expr h hs) fun E σ H ⟨r, t, h, Y, S, q⟩ => (rs_bind Y S q).mono fun v H1 ⟨r1, h1, d, e1, Y1, S1, rv, q1⟩ => q1.nx Y1 S1
theorem ds_ret {e : Expr} {m : M} {pos} (h : DE X CL W c e m) : DS X CL W c (.Return (some e) pos) (sRet m) :=
  psimp (ps_ret h) fun E σ H ⟨r, t, h, Y, S, q⟩ => (rs_bind Y S q).mono fun v H1 ⟨r1, h1, d, e1, Y1, S1, rv, q1⟩ => q1 v r1 H1 (Ext.refl _ _) Y1 rv
theorem ds_retN {pos} : DS X CL W c (.Return none pos) sRetN := psimp ps_retN fun E σ H ⟨r, t, h, Y, S, q⟩ => q _ r H (Ext.refl _ _) Y .non
theorem ds_break {pos} : DS X CL W c (.Break pos) sBreak := psimp ps_break fun E σ H ⟨r, t, h, Y, S, q⟩ => q σ r H (Ext.refl _ _) Y S
theorem ds_cont {pos} : DS X CL W c (.Continue pos) sCont := psimp ps_continue fun E σ H ⟨r, t, h, Y, S, q⟩ => q σ r H (Ext.refl _ _) Y S
theorem ds_pass {pos} : DS X CL W c (.Pass pos) sNil := psimp ps_pass fun E σ H ⟨r, t, h, Y, S, q⟩ => q.nx Y S
theorem ds_set {i : Nat} {x : Str} {e : Expr} {m : M} {px pos} (h : DE X CL W c e m) (hN : X.N.Nodup) (hi : X.N[i]? = some x) (hx : Loc X.env.scope x) (hf : X.fn x = true ∨ X.env.scope.names.lookup x = some .local) (hs : swapsWith e (some (.Name x px)) pos.line X.env = pure false) :
    DS X CL W c (.Assign [.Name x px] e pos) (sSet i m) :=
  psimp (ps_set hN hi hx h hs hf) fun E σ H ⟨r, t, h, Y, S, q⟩ => (rs_bind Y S q).mono fun v H1 ⟨r1, h1, d, e1, Y1, S1, rv, q1⟩ => q1.nx Y1 (S1.set i rv)
theorem ds_asg {g : Tg} {tg e : Expr} {m : M} {pos} (h : DE X CL W c e m) (hg : DG X tg g) (hs : swapsWithSole [tg] e pos.line X.env = pure false) (hw : swappedStores [tg] e X.env = pure none) (h1 : (assignEach [tg] X.env).map (·.2) = [assign tg X.env]) :
    DS X CL W c (.Assign [tg] e pos) (sAsg g m) :=
  psimp (ps_asg h hg hs hw h1) fun E σ H ⟨r, t, h, Y, S, q⟩ => (rs_bind Y S q).mono fun v H1 ⟨r1, h1, d, e1, Y1, S1, rv, q1⟩ => by
    cases e : asg g d t with
    | none => rw [e] at q1; exact q1.elim
    | some t' => rw [e] at q1; exact ⟨r1, t, h1, d, t', Y1, S1, rv, e, fun σ' S' _ => q1.nx Y1 S'⟩
theorem ds_if {k : Expr} {a b : List Stmt} {mk : MB} {ma mb : MS} {pos} (h0 : DT X CL W c k mk) (h1 : DSs X CL W c a ma) (h2 : DSs X CL W c b mb) : DS X CL W c (.If k a b pos) (sIf mk ma mb) :=
  psimp (ps_if h0 h1 h2) fun E σ H ⟨r, t, h, Y, S, q⟩ => (rs_bind (rel := relB) Y S q).mono fun v H1 ⟨r1, h1, d, e1, Y1, S1, rv, q1⟩ => by
    have rv : v = d := rv
    subst rv
    cases v with
    | true => rw [if_pos rfl] at q1 ⊢; exact ⟨r1, t, h1, Y1, S1, q1⟩
    | false => rw [if_neg (by decide)] at q1 ⊢; exact ⟨r1, t, h1, Y1, S1, q1⟩
/-- a turn's end -/
theorem turn_of {E : Ends} {r : Rho} {H : Hp} {x : SR} {k : Tau → Hd → SR} {N : L2.St → Hp → Prop} (q : rdS X.K CL W r H E (x.turn k)) (hN : ∀ σ' r' t' h' H', R X.K r' h' H' → Slots X.K H' r' σ' t' → rdS X.K CL W r' H' E (k t' h') → Ext r H r' H' → N σ' H') :
    rdS X.K CL W r H { E with nx := N, ct := N, bk := E.nx } x := by
  cases x with
  | nx t' h' => exact fun σ' r' H' x Y' S' => hN σ' r' t' h' H' Y' S' (rdS.ext x q) x
  | ct t' h' => exact fun σ' r' H' x Y' S' => hN σ' r' t' h' H' Y' S' (rdS.ext x q) x
  | bk t h => exact q
  | rt d h => exact q
  | exn a b c d => exact q
  | stuck => exact q
theorem ds_while {k : Expr} {b : List Stmt} {mk : MB} {mb : MS} {pos} (hp : PassesOwn (model X.prog X.w) X.A X.env X.xe) (h0 : DT X CL W c k mk) (h1 : DSs X CL W c b mb) : DS X CL W c (.While k b [] pos) (sWhile mk mb) :=
  psimp (ps_while hp h0 h1) fun E σ H ⟨r, t, h, Y, S, q⟩ => by
    refine ⟨fun m σ H => ∃ r t h, R X.K r h H ∧ Slots X.K H r σ t ∧ rdS X.K CL W r H E (whileL mk mb c m t h), ⟨bigN, r, t, h, Y, S, q⟩, fun m σ H ⟨r, t, h, Y, S, q⟩ => ?_⟩
    cases m with
    | zero => exact q.elim
    | succ m =>
      refine (rs_bind (rel := relB) Y S q).mono fun v H1 ⟨r1, h1, d, e1, Y1, S1, rv, q1⟩ => ?_
      have rv : v = d := rv
      subst rv
      cases v with
      | true =>
        rw [if_pos rfl] at q1 ⊢
        exact ⟨_, fun σ' H' n => ⟨m, Nat.lt_succ_self m, n⟩, r1, t, h1, Y1, S1, turn_of q1 fun σ' r' t' h' H' Y' S' q' _ => ⟨r', t', h', Y', S', q'⟩⟩
      | false =>
        rw [if_neg (by decide)] at q1 ⊢
        exact q1.nx Y1 S1
theorem ds_for {it tg : Expr} {b : List Stmt} {mi : MI} {g : Tg} {mb : MS} {pos} (hp : PassesOwn (model X.prog X.w) X.A X.env X.xe) (hc : X.calm = true) (h0 : DI X CL W c tg it mi) (hg : DG X tg g) (h1 : DSs X CL W c b mb) (hs : ∀ x, foldedSetIterable it X.env x = pure x) :
    DS X CL W c (.For tg it b [] pos) (sFor mi g mb) :=
  psimp (ps_for hp hc h0 hg h1 hs) fun E σ H ⟨r, t, h, Y, S, q⟩ => (rs_bind (rel := relI X.K) Y S q).mono fun J H1 ⟨r1, h1, s, e1, Y1, S1, ⟨G, g0, walk, st, _⟩, q1⟩ => by
    refine ⟨fun i m σ H => m = s.items.length - i ∧ i ≤ s.items.length ∧ ∃ r t h, R X.K r h H ∧ Slots X.K H r σ t ∧ G r H ∧ rdS X.K CL W r H E (forL s (fun d t h => match asg g d t with
      | some t' => mb c t' h
      | none => .stuck) (s.items.drop i) t h), ⟨_, rfl, Nat.zero_le _, r1, t, h1, Y1, S1, g0, q1⟩, ?_⟩
    rintro i m σ H ⟨rfl, hi, r, t, h, Y, S, hG, q⟩
    by_cases hl : i < s.items.length
    · rw [List.drop_eq_getElem_cons hl] at q
      unfold forL at q
      by_cases ok : s.ok h
      · rw [if_pos ok] at q
        obtain ⟨go, yl⟩ := (walk i r h H Y hG ok).1 _ (List.getElem?_eq_getElem hl)
        refine .inr ⟨go, fun σ' H' => ∃ r' t' h', R X.K r' h' H' ∧ Slots X.K H' r' σ' t' ∧ G r' H' ∧ rdS X.K CL W r' H' E (forL s (fun d t h => match asg g d t with
          | some t' => mb c t' h
          | none => .stuck) (s.items.drop (i + 1)) t' h'), fun σ' H' n => ⟨_, by omega, rfl, hl, n⟩, fun x H' y => ?_⟩
        obtain ⟨rfl, rx⟩ := yl x H' y
        cases e : asg g s.items[i] t with
        | none => simp only [e] at q; exact q.elim
        | some t' =>
          simp only [e] at q
          refine ⟨r, t, h, _, t', Y, S, rx, e, fun σ' S' _ => ⟨r, t', h, Y, S', turn_of q fun σ2 r2 t2 h2 H2 Y2 S2 q2 x2 => ⟨r2, t2, h2, Y2, S2, ?_, q2⟩⟩⟩
          refine st r H' r2 h2 H2 hG x2 Y2 ?_
          cases hd : s.items.drop (i + 1) with
          | nil =>
            rw [hd] at q2
            unfold forL at q2
            by_cases ok2 : s.ok h2
            · exact ok2
            · rw [if_neg ok2] at q2; exact q2.elim
          | cons d ds =>
            rw [hd] at q2
            unfold forL at q2
            by_cases ok2 : s.ok h2
            · exact ok2
            · rw [if_neg ok2] at q2; exact q2.elim
      · rw [if_neg ok] at q; exact q.elim
    · have hd : s.items.drop i = [] := List.drop_eq_nil_of_le (by omega)
      rw [hd] at q
      unfold forL at q
      by_cases ok : s.ok h
      · rw [if_pos ok] at q
        exact .inl ⟨(walk i r h H Y hG ok).2 (by omega), q.nx Y S⟩
      · rw [if_neg ok] at q; exact q.elim
/-! ### o[i] = e -/
theorem set_any {K : PySem.W.Frag} {r : Rho} {H : Hp} {h : Hd} {a : Addr} {i j : Nat} {xs : List D} {vs : List V} {v : V} {d : D} (Y : R K r h H) (f : r.l[i]? = some (some a)) (k : RepA K H r vs xs) (rv : Rep K H r v d) :
    R K r (h.set i (.lst (xs.set j d))) (upd H a (.lst (vs.set j v))) ∧ Ext r H r (upd H a (.lst (vs.set j v))) := by
  have x : Ext r H r (upd H a (.lst (vs.set j v))) := Ext.wrote Y (List.mem_iff_getElem?.mpr ⟨i, f⟩)
  exact ⟨Y.wrote f ⟨_, upd_same, (k.set rv j).mono x⟩, x⟩
end
end Ev

/-! Ev8: list comprehensions. -/
namespace Ev
open PySem L2

def wipeT (t : Tau) : List Nat → Tau
  | [] => t
  | v :: vs => (wipeT t vs).set v none
/-- within a comprehension nothing may raise -/
def noX {α : Type} : Res α → Res α
  | .ok a h => .ok a h
  | _ => .stuck
open Classical in
noncomputable def compL (s : Src) (step : D → Hd → Res (Option D)) : List D → Hd → Res (List D)
  | [], h => if s.ok h then .ok [] h else .stuck
  | d :: ds, h => if s.ok h then (step d h).bind fun o h1 => (compL s step ds h1).bind fun l h2 => .ok (o.toList ++ l) h2 else .stuck
def stepC (c : Calls) (t : Tau) (g : Tg) (k : MB) (e : M) (d : D) (h : Hd) : Res (Option D) :=
  match asg g d t with
  | some t' => noX ((k c t' h).bind fun z h1 => if z then (e c t' h1).bind fun y h2 => .ok (some y) h2 else .ok none h1)
  | none => .stuck
noncomputable def mComp (b : Bool) (it : MI) (g : Tg) (own : List Nat) (k : MB) (e : M) : M := fun c t h =>
  (it c t h).bind fun s h1 => (compL s (stepC c (wipeT t own) g k e) s.items h1).bind fun ys h2 => fresh b ys h2
def tYesM : MB := fun _ _ h => .ok true h

section
variable {X : Cx} {CL : List XC} {W : WX} {c : Calls}
theorem Slots.wipe {K : PySem.W.Frag} {H : Hp} {r : Rho} {σ : L2.St} {t : Tau} (s : Slots K H r σ t) : ∀ vs : List Nat, Slots K H r (wipe σ vs) (wipeT t vs)
  | [] => s
  | v :: vs => (Slots.wipe s vs).none v
theorem wipe_get (σ : L2.St) (j : Nat) : ∀ vs : List Nat, j ∉ vs → (wipe σ vs)[j]? = σ[j]?
  | [], _ => rfl
  | v :: vs, n => by
    unfold wipe
    rw [List.getElem?_set_ne (by rintro rfl; exact n List.mem_cons_self)]
    exact wipe_get σ j vs fun m => n (List.mem_cons_of_mem _ m)
theorem wipe_own (σ : L2.St) (j : Nat) (hl : j < σ.length) : ∀ vs : List Nat, j ∈ vs → (wipe σ vs)[j]? = some none
  | [], m => by cases m
  | v :: vs, m => by
    unfold wipe
    by_cases e : v = j
    · subst e
      rw [List.getElem?_set_self (by rw [wipe_length]; exact hl)]
    · rw [List.getElem?_set_ne e]
      rcases List.mem_cons.mp m with z | z
      · exact (e z.symm).elim
      · exact wipe_own σ j hl vs z
theorem wipe_but {is vs : List Nat} {σ σ2 : L2.St} (b : But is (wipe σ vs) σ2) (h : ∀ i ∈ is, i ∈ vs) : wipe σ2 vs = wipe σ vs := by
  have hl : σ2.length = σ.length := by rw [b.1, wipe_length]
  apply List.ext_getElem?
  intro j
  by_cases m : j ∈ vs
  · by_cases hj : j < σ.length
    · rw [wipe_own σ2 j (by omega) vs m, wipe_own σ j hj vs m]
    · rw [List.getElem?_eq_none (by rw [wipe_length]; omega), List.getElem?_eq_none (by rw [wipe_length]; omega)]
  · rw [wipe_get _ _ _ m, b.2 j (fun z => m (h j z))]
abbrev W0 : WX := fun _ _ _ _ => False
abbrev BlkP (X : Cx) (scope : Scope) (P : Cx → Prop) : Prop := ∀ (s : Shared) (H : Hp) (C : Addr) (cl : List (Str × Addr)) (fp : List Addr), P (X.blk s H scope (compEnvC scope cl C X.env) fp)
/-- behind a turn -/
theorem noX_ok {K : PySem.W.Frag} {α β : Type} {rel : Rl β α} {r : Rho} {H : Hp} {σ : L2.St} {Q : β → Hp → Prop} {x : Res α} {γ : Type} {k : α → Hd → Res γ} {β' : Type} {rel' : Rl β' γ} {Q' : β' → Hp → Prop}
    (q : rdK K CL W rel' r H σ Q' ((noX x).bind k)) (i : ∀ a h', x = .ok a h' → rdK K CL W rel' r H σ Q' (k a h') → rdK K CL W0 rel r H σ Q (.ok a h')) : rdK K CL W0 rel r H σ Q x := by
  cases x with
  | ok a h' => exact i a h' rfl q
  | exn a b h' => exact q.elim
  | stuck => exact q.elim
theorem rdK_split {K : PySem.W.Frag} {α β : Type} {rel : Rl β α} {r : Rho} {H : Hp} {h : Hd} {t : Tau} {σ : L2.St} {Q : β → Hp → Prop} {m : Calls → Tau → Hd → Res α} (x : R K r h H) (s : Slots K H r σ t) (q : rdK K CL W rel r H σ Q (m c t h)) : rd K CL W rel c m σ H Q := ⟨r, t, h, x, s, q⟩
theorem noX_noexn {α : Type} {x : Res α} {a : Nat} {b : List D} {c : Hd} : noX x ≠ .exn a b c := by cases x <;> (intro z; cases z)
theorem comp_noexn {s : Src} {c : Calls} {t : Tau} {g : Tg} {k : MB} {e : M} : ∀ {ds : List D} {h : Hd} {a : Nat} {b : List D} {h' : Hd}, compL s (stepC c t g k e) ds h = .exn a b h' → False
  | [], h, a, b, h', q => by
    unfold compL at q
    by_cases ok : s.ok h
    · rw [if_pos ok] at q; cases q
    · rw [if_neg ok] at q; cases q
  | d :: ds, h, a, b, h', q => by
    unfold compL at q
    by_cases ok : s.ok h
    · rw [if_pos ok] at q
      cases e1 : stepC c t g k e d h with
      | exn a b c =>
        unfold stepC at e1
        split at e1
        · exact noX_noexn e1
        · cases e1
      | stuck => rw [e1] at q; cases q
      | ok o h1 =>
        rw [e1] at q
        have q : ((compL s (stepC c t g k e) ds h1).bind fun l h2 => .ok (o.toList ++ l) h2) = .exn a b h' := q
        cases e2 : compL s (stepC c t g k e) ds h1 with
        | exn a b c => exact comp_noexn e2
        | stuck => rw [e2] at q; cases q
        | ok o h1 => rw [e2] at q; cases q
    · rw [if_neg ok] at q; cases q
theorem comp_core {σ : L2.St} {H1 : Hp} {Q : VK} {J : It} {r1 : Rho} {h1 : Hd} {t : Tau} {s : Src} {g : Tg} {vs : List Nat} {mk : MB} {me : M} {b : Bool} (Y1 : R X.K r1 h1 H1) (S1 : Slots X.K H1 r1 σ t) (rI : relI X.K H1 r1 J s) (ho : ∀ i ∈ g.own, i ∈ vs)
    (q1 : rdK X.K CL W (relD X.K) r1 H1 σ Q ((compL s (stepC c (wipeT t vs) g mk me) s.items h1).bind fun ys h2 => fresh b ys h2)) (p : Addr) (np : H1 p = none) :
    ∃ W' : Nat → Nat → Hp → Prop, (∃ m, W' 0 m (upd H1 p (.lst []))) ∧ ∀ i m H, W' i m H → (J.stop i H ∧ Q (.ref p) H) ∨ (J.go i H ∧ ∃ Nx : Hp → Prop, (∀ H', Nx H' → ∃ m', m' < m ∧ W' (i + 1) m' H') ∧ ∀ x H', J.yld i H x H' →
      TGD X.K g x (wipe σ vs) H' fun σ2 H2 => wipe σ2 vs = wipe σ vs ∧ rd X.K CL W0 relB c mk σ2 H2 fun b H3 =>
        if b = true then rd X.K CL W0 (relD X.K) c me σ2 H3 fun y H4 => ∃ acc, H4 p = some (.lst acc) ∧ acc.length < sizeLine ∧ Nx (upd H4 p (.lst (acc ++ [y]))) else Nx H3) := by
  obtain ⟨G, g0, walk, st, sf⟩ := rI
  refine ⟨fun i m H => m = s.items.length - i ∧ i ≤ s.items.length ∧ ∃ r h acc us, R X.K r h H ∧ (r.hid = p :: r1.hid ∧ Ext r1 H1 ⟨r.l, r1.hid⟩ H) ∧ Slots X.K H r σ t ∧ G r H ∧ H p = some (.lst us) ∧ RepA X.K H r us acc ∧
      rdK X.K CL W (relD X.K) r1 H1 σ Q ((compL s (stepC c (wipeT t vs) g mk me) (s.items.drop i) h).bind fun ys h2 => fresh b (acc ++ ys) h2), ⟨_, rfl, Nat.zero_le _, r1.hide p, h1, [], [], Y1.hide np, ⟨rfl, Ext.laid np⟩, S1.shift (Shift.hide np), sf _ _ _ _ g0 (Shift.hide np), upd_same, .nil, q1⟩, ?_⟩
  rintro i m H ⟨rfl, hi, r, h, acc, us, Y, ⟨hr, x⟩, S, hG, hp, ra, q⟩
  have hid : p ∈ r.hid := by rw [hr]; exact List.mem_cons_self
  have pn : some p ∉ r.l := (Y.hid p hid).2
  have np' : ¬ (⟨r.l, r1.hid⟩ : Rho).has p := fun z => by
    rcases z with z | z
    · exact pn z
    · exact (Y1.hid p z).1 np
  have ms : ∀ a ∈ r1.hid, a ∈ r.hid := fun a m => by rw [hr]; exact List.mem_cons_of_mem _ m
  by_cases hl : i < s.items.length
  · rw [List.drop_eq_getElem_cons hl] at q
    unfold compL at q
    by_cases ok : s.ok h
    · rw [if_pos ok] at q
      obtain ⟨go, yl⟩ := (walk i r h H Y hG ok).1 _ (List.getElem?_eq_getElem hl)
      refine .inr ⟨go, _, fun H' n => ⟨s.items.length - (i + 1), by omega, rfl, hl, n⟩, fun z H' y => ?_⟩
      obtain ⟨rfl, rx⟩ := yl z H' y
      unfold stepC at q
      cases e : asg g s.items[i] (wipeT t vs) with
      | none => simp only [e] at q; exact q.elim
      | some t' =>
        simp only [e] at q
        refine ⟨r, wipeT t vs, h, _, t', Y, S.wipe vs, rx, e, fun σ2 S2 bt => ⟨wipe_but bt ho, r, t', h, Y, S2, ?_⟩⟩
        -- what goes on behind the turn
        have okn : ∀ {r3 : Rho} {h3 : Hd} {acc' : List D}, rdK X.K CL W (relD X.K) r1 H1 σ Q ((compL s (stepC c (wipeT t vs) g mk me) (s.items.drop (i + 1)) h3).bind fun ys h2 => fresh b (acc' ++ ys) h2) → s.ok h3 := fun {r3 h3 acc'} q3 => by
          cases hd : s.items.drop (i + 1) with
          | nil =>
            rw [hd] at q3
            unfold compL at q3
            by_cases ok2 : s.ok h3
            · exact ok2
            · rw [if_neg ok2] at q3; exact q3.elim
          | cons d ds =>
            rw [hd] at q3
            unfold compL at q3
            by_cases ok2 : s.ok h3
            · exact ok2
            · rw [if_neg ok2] at q3; exact q3.elim
        have asc : ∀ (y : Res (List D)) (l : List D), ((y.bind fun a h => .ok (l ++ a) h).bind fun ys h2 => fresh b (acc ++ ys) h2) = y.bind fun ys h2 => fresh b ((acc ++ l) ++ ys) h2 := fun y l => by
          cases y with
          | ok a h => simp only [Res.bind, List.append_assoc]
          | exn a b c => rfl
          | stuck => rfl
        cases e1 : mk c t' h with
        | exn a b c => rw [e1] at q; exact q.elim
        | stuck => rw [e1] at q; exact q.elim
        | ok z h3 =>
          rw [e1] at q
          intro v r3 H3 x3 Y3 rv
          have rv : v = z := rv
          subst rv
          have hid3 : p ∈ r3.hid := by rw [x3.hid]; exact hid
          cases v with
          | false =>
            have q : rdK X.K CL W (relD X.K) r1 H1 σ Q (((compL s (stepC c (wipeT t vs) g mk me) (s.items.drop (i + 1)) h3).bind fun l h2 => .ok ([] ++ l) h2).bind fun ys h2 => fresh b (acc ++ ys) h2) := q
            rw [asc, List.append_nil] at q
            refine ⟨r3, h3, acc, us, Y3, ⟨x3.hid.trans hr, ?_⟩, S.mono x3, st r _ r3 h3 H3 hG x3 Y3 (okn (r3 := r3) q), x3.hkeep p _ hid hp, ra.mono x3, q⟩
            have z := Ext.through (u := .lst us) np x hr x3
            have e : upd H3 p (.lst us) = H3 := by
              funext a
              by_cases ea : a = p
              · subst ea; rw [upd_same]; exact (x3.hkeep _ _ hid hp).symm
              · rw [upd_ne ea]
            rw [e] at z
            exact z
          | true =>
            refine ⟨r3, t', h3, Y3, S2.mono x3, ?_⟩
            have q : rdK X.K CL W (relD X.K) r1 H1 σ Q (((noX ((me c t' h3).bind fun y h2 => .ok (some y) h2)).bind fun o h1 => (compL s (stepC c (wipeT t vs) g mk me) (s.items.drop (i + 1)) h1).bind fun l h2 => .ok (o.toList ++ l) h2).bind fun ys h2 => fresh b (acc ++ ys) h2) := q
            cases e2 : me c t' h3 with
            | exn a b c => rw [e2] at q; exact q.elim
            | stuck => rw [e2] at q; exact q.elim
            | ok y h4 =>
              rw [e2] at q
              intro v r4 H4 x4 Y4 rv
              have q : rdK X.K CL W (relD X.K) r1 H1 σ Q (((compL s (stepC c (wipeT t vs) g mk me) (s.items.drop (i + 1)) h4).bind fun l h2 => .ok ([y] ++ l) h2).bind fun ys h2 => fresh b (acc ++ ys) h2) := q
              rw [asc] at q
              have x34 := x3.trans x4
              have hid4 : p ∈ r4.hid := by rw [x34.hid]; exact hid
              have hp4 := x34.hkeep p _ hid hp
              have hlen : us.length < sizeLine := by
                rw [ra.len]
                cases e3 : compL s (stepC c (wipeT t vs) g mk me) (s.items.drop (i + 1)) h4 with
                | ok ys h5 =>
                  rw [e3] at q
                  have := fresh_len (fresh_ok (m := b) q)
                  simp only [List.length_append, List.length_cons, List.length_nil] at this
                  omega
                | exn a b c => rw [e3] at q; exact (comp_noexn e3).elim
                | stuck => rw [e3] at q; exact q.elim
              refine ⟨us, hp4, hlen, r4, h4, acc ++ [y], us ++ [v], Y4.side hid4, ⟨x34.hid.trans hr, Ext.through np x hr x34⟩, (S.mono x34).shift (Shift.wrote hid4), sf _ _ _ _ (st r _ r4 h4 H4 hG x34 Y4 (okn (r3 := r4) q)) (Shift.wrote hid4), upd_same, ?_, q⟩
              exact ((ra.mono x34).app (.cons rv .nil)).shift (Shift.wrote hid4)
    · rw [if_neg ok] at q; exact q.elim
  · have hd : s.items.drop i = [] := List.drop_eq_nil_of_le (by omega)
    rw [hd] at q
    unfold compL at q
    by_cases ok : s.ok h
    · rw [if_pos ok] at q
      refine .inl ⟨(walk i r h H Y hG ok).2 (by omega), ?_⟩
      have xu := x
      have q : rdK X.K CL W (relD X.K) r1 H1 σ Q (fresh b (acc ++ []) h) := q
      rw [List.append_nil] at q
      have q2 := fresh_ok q
      have hz := fresh_len q2
      have ru := ra.shift (Shift.bare ms)
      unfold fresh at q2
      rw [if_pos hz] at q2
      cases b with
      | false =>
        rw [if_neg (by decide)] at q2
        exact q2 _ _ H xu (Y.bare ms) (.lst ⟨hp, np'⟩ ru)
      | true =>
        rw [if_pos rfl] at q2
        have sh : Shift r H (Rho.add ⟨r.l, r1.hid⟩ p) H := Shift.out hid ms
        refine q2 _ (Rho.add ⟨r.l, r1.hid⟩ p) H (xu.out np) (Y.adopt (r0 := ⟨r.l, r1.hid⟩) pn rfl (fun a m => ⟨ms a m, fun e => (Y1.hid a m).1 (by rw [e]; exact np)⟩) (fun a o ho => ho.shift sh rfl) ⟨us, hp, ra.shift sh⟩) (.ref ?_)
        show (r.l ++ [some p])[h.length]? = _
        rw [← Y.len, List.getElem?_append_right (Nat.le_refl _)]; simp
    · rw [if_neg ok] at q; exact q.elim
theorem de_comp {elt tg iter : Expr} {ifs : List Expr} {scope : Scope} {own : List (Str × Nat)} {pos : Pos} {mi : MI} {g : Tg} {mk : MB} {me : M} {b : Bool} (hc : X.calm = true) (hN : X.N.Nodup) (hi : DI X CL W c tg iter mi) (ok : BlkOk X.N X.env.scope scope own)
    (hg : BlkP X scope fun X' => DG X' tg g) (hk : BlkP X scope fun X' => PTs X' ifs (rd X.K CL W0 relB c mk)) (he : BlkP X scope fun X' => DE X' CL W0 c elt me) (ho : ∀ i ∈ g.own, i ∈ own.map (·.2)) (hs : ∀ x, foldedSetIterable iter X.env x = pure x) :
    DE X CL W c (.ListComp elt [⟨tg, iter, ifs, 0⟩] scope pos) (mComp b mi g (own.map (·.2)) mk me) :=
  pimp (pe_lc (g := TGD X.K g) (tt := rd X.K CL W0 relB c mk) (te := rd X.K CL W0 (relD X.K) c me) hc hN hi ok hg hk he hs) fun σ H Q ⟨r, t, h, Y, S, q⟩ => (rd_bind (rel1 := relI X.K) Y S q).mono fun J H1 ⟨r1, h1, s, e1, Y1, S1, rI, q1⟩ => fun p np =>
    comp_core Y1 S1 rI ho q1 p np
end
end Ev

/-! Ev9: methods of lists, tuples, dicts, texts; o[i] = e. -/
namespace Ev
open PySem L2

inductive Kd where
  | list | tuple | dict | str
  deriving DecidableEq
def Kd.T : Kd → String
  | .list => "list"
  | .tuple => "tuple"
  | .dict => "dict"
  | .str => "str"
def kindOf (d : D) (h : Hd) : Option Kd :=
  match d with
  | .lst _ => some .list
  | .scr _ => some .list
  | .tup _ => some .tuple
  | .str _ => some .str
  | .ref i => match h[i]? with
    | some (.lst _) => some .list
    | some (.dict _) => some .dict
    | _ => none
  | _ => none
abbrev FM := D → List D → Hd → Res D
def mMt (fs : Kd → Option FM) (o : M) (l : ML) : M := fun c t h => (o c t h).bind fun x h1 => match kindOf x h1 with
  | none => .stuck
  | some k => match fs k with
    | none => .stuck
    | some f => (l c t h1).bind fun ds h2 => f x ds h2
/-- an open list's items -/
def D.open? (h : Hd) : D → Option (Nat × List D)
  | .ref i => match h[i]? with
    | some (.lst xs) => some (i, xs)
    | _ => none
  | _ => none
def fAppend : FM := fun d ds h => match d.open? h, ds with
  | some (i, xs), [y] => if xs.length < sizeLine then .ok .non (h.set i (.lst (xs ++ [y]))) else .stuck
  | _, _ => .stuck
def fExtend : FM := fun d ds h => match d.open? h, ds with
  | some (i, xs), [y] => match y with
    | .tup ys => if xs.length + ys.length ≤ sizeLine then .ok .non (h.set i (.lst (xs ++ ys))) else .stuck
    | y => match y.items? h with
      | some ys => if xs.length + ys.length ≤ sizeLine then .ok .non (h.set i (.lst (xs ++ ys))) else .stuck
      | none => .stuck
  | _, _ => .stuck
def fPop : FM := fun d ds h => match d.open? h, ds with
  | some (i, xs), [] => match xs[xs.length - 1]? with
    | some y => .ok y (h.set i (.lst xs.dropLast))
    | none => .stuck
  | some (i, xs), [.int n] => match ixI xs.length n with
    | some j => match xs[j]? with
      | some y => .ok y (h.set i (.lst (xs.eraseIdx j)))
      | none => .stuck
    | none => .stuck
  | _, _ => .stuck
def fInsert : FM := fun d ds h => match d.open? h, ds with
  | some (i, xs), [.int n, y] => if xs.length < sizeLine ∧ 0 ≤ n ∧ n < 2 ^ 62 then .ok .non (h.set i (.lst (xs.take n.toNat ++ [y] ++ xs.drop n.toNat))) else .stuck
  | _, _ => .stuck
def fReverse : FM := fun d ds h => match d.open? h, ds with
  | some (i, xs), [] => .ok .non (h.set i (.lst xs.reverse))
  | _, _ => .stuck
def fClear : FM := fun d ds h => match d.open? h, ds with
  | some (i, xs), [] => .ok .non (h.set i (.lst []))
  | _, _ => .stuck
/-- the place of an equal one -/
def placeOf (xs : List D) (d : D) : Nat := (xs.map fun z => D.eqv z d).idxOf true
def fIndex : FM := fun d ds h => match ds with
  | [y] => match d.see h with
    | .lst xs => if cmpOk y (.lst xs) ∧ D.has xs y then .ok (.int (placeOf xs y : Nat)) h else .stuck
    | .scr xs => if cmpOk y (.scr xs) ∧ D.has xs y then .ok (.int (placeOf xs y : Nat)) h else .stuck
    | .tup xs => if cmpOk y (.tup xs) ∧ D.has xs y then .ok (.int (placeOf xs y : Nat)) h else .stuck
    | _ => .stuck
  | _ => .stuck
def fGet : FM := fun d ds h => match d.dict? h, ds with
  | some es, [k] => if keyOk k then .ok ((getD es k).getD .non) h else .stuck
  | some es, [k, x] => if keyOk k then .ok ((getD es k).getD x) h else .stuck
  | _, _ => .stuck
def strsOf : List D → Option (List (List Nat))
  | [] => some []
  | .str s :: r => (strsOf r).map (s :: ·)
  | _ :: _ => none
def joinD (s : List Nat) : List (List Nat) → List Nat
  | [] => []
  | [p] => p
  | p :: q :: r => p ++ (s ++ joinD s (q :: r))
def fJoin : FM := fun d ds h => match d, ds with
  | .str s, [y] => match y.see h with
    | .lst xs => match strsOf xs with
      | some ys => if (ys.map List.length).sum + ys.length * s.length ≤ 1000000 then .ok (.str (joinD s ys)) h else .stuck
      | none => .stuck
    | .tup xs => match strsOf xs with
      | some ys => if (ys.map List.length).sum + ys.length * s.length ≤ 1000000 then .ok (.str (joinD s ys)) h else .stuck
      | none => .stuck
    | _ => .stuck
  | _, _ => .stuck

section
variable {X : Cx} {CL : List XC} {W : WX} {c : Calls}
/-- a method's rule by values -/
def MtE (X : Cx) (id : String) (f : FM) : Prop :=
  ∀ (pins : List (Addr × Obj)) (s : Shared) (σ : L2.St) (H : Hp) (x : V) (xs : List V) (v : Value) (us : List Value) (Q : VK), Inv X pins σ H s → RelV x v → Vals xs us →
    (∃ r h d ds, R X.K r h H ∧ Rep X.K H r x d ∧ RepA X.K H r xs ds ∧ okK X.K (relD X.K) r H Q (f d ds h)) → wpAny (model X.prog X.w) X.A (call (.builtin id) (v :: us)) (EP X pins σ Q) X.xe s
structure Mth (X : Cx) (name : Str) (k : Kd) (f : FM) : Prop where
  calm : ∀ d ds h c fs h', f d ds h ≠ .exn c fs h'
  ex : ∃ id, PlainAttrs k.T ∧ Slot k.T name id ∧ typeOf (.builtin id) = pure (.type "method_descriptor") ∧ MtE X id f
theorem kind_is {pins : List (Addr × Obj)} {σ : L2.St} {H : Hp} {s : Shared} {x : V} {v : Value} {r : Rho} {h : Hd} {d : D} {k : Kd} (I : Inv X pins σ H s) (rv : RelV x v) (Y : R X.K r h H) (rp : Rep X.K H r x d) (e : kindOf d h = some k) :
    s.TypeIs v k.T ∧ ∀ a, v = .ref a → ∃ ob, s.heap.get? a = some ob ∧ ob.dict = none := by
  have lists : ∀ {a vs}, SqL X.K H a vs → s.TypeIs (.ref a) "list" ∧ ∀ b, Value.ref a = .ref b → ∃ ob, s.heap.get? b = some ob ∧ ob.dict = none := fun {a vs} f => tyV_is (x := .ref a) I rfl (.inl ⟨rfl, vs, f⟩)
  cases d with
  | lst xs => cases e; cases rp with | lst f _ => cases rv; exact lists (FzL.seq f)
  | scr xs => cases e; cases rp with | scr f _ => cases rv; exact lists f.seq
  | str z =>
    cases e
    obtain ⟨y, rfl, _, _⟩ := rep_str rp
    exact tyV_is (x := .str y) I rv rfl
  | tup xs =>
    cases e
    cases rp with
    | tup f _ =>
      cases rv
      rcases f with ⟨o, f, ⟨its, n, eo⟩, _⟩ | ⟨f, o, lk, ⟨its, n, eo⟩⟩
      · obtain ⟨g, _⟩ := I.hok _ _ f
        refine ⟨⟨o, g, by rw [eo]; rfl⟩, fun b eb => ?_⟩
        cases eb
        exact ⟨o, g, by rw [eo]⟩
      · have g := I.kIn _ _ lk
        refine ⟨⟨o, g, by rw [eo]; rfl⟩, fun b eb => ?_⟩
        cases eb
        exact ⟨o, g, by rw [eo]⟩
  | ref i =>
    have e : (match h[i]? with | some (.lst _) => some Kd.list | some (.dict _) => some Kd.dict | _ => none) = some k := e
    split at e
    · rename_i xs e1
      cases e
      obtain ⟨a, vs, rfl, h1, _⟩ := items_at Y rp (xs := xs) (by unfold D.items?; simp only [e1])
      cases rv
      exact lists (.inl (.inl h1))
    · rename_i es e1
      cases e
      obtain ⟨a, j, kvs, rfl, _, _, _, h1, _⟩ := dict_at Y rp (es := es) (by unfold D.dict?; simp only [e1])
      cases rv
      exact tyV_is (x := .ref a) I rfl (.inr (.inr (.inl ⟨rfl, .inl ⟨kvs, h1⟩⟩)))
    · cases e
  | _ => cases e
theorem de_meth {name : Str} {fs : Kd → Option FM} {o e : Expr} {es : List Expr} {mo : M} {l : ML} {apos cpos : Pos} (hm : ∀ k f, fs k = some f → Mth X name k f) (ho : DE X CL W c o mo) (ha : DA X CL W c (e :: es) l) (hbase : attributeBase o name X.env (eval o X.env) = eval o X.env)
    (hfew : ((backTo cpos (starEach (e :: es) X.env)).all (fun x => !x.1) && (backToKw cpos (keywordEach [] X.env)).all (fun x => x.1.isSome) && decide ((e :: es).length + ([] : List Keyword).length + (if ([] : List Keyword).isEmpty then 0 else 1) < 30)) = true)
    (hline : (apos.endLine == cpos.line) = true) (hs : starEach (e :: es) X.env = (false, eval e X.env) :: starEach es X.env) (hplain : (backTo cpos (starEach es X.env)).any (·.1) = false) : DE X CL W c (.Call (.Attribute o name apos) (e :: es) [] cpos) (mMt fs mo l) := by
  refine ⟨fun pins s σ H Q I ⟨r, t, h, Y, S, q⟩ => ?_⟩
  refine wpAny_Call_method_late hbase hfew hline rfl (thn (ho.run pins s σ H _ I (rd_bind (rel1 := relD X.K) Y S q)) fun v s1 ⟨x, H1, I1, rx, r1, h1, d, e1, Y1, S1, rv, q1⟩ => ?_)
  cases e2 : kindOf d h1 with
  | none => rw [e2] at q1; exact q1.elim
  | some k =>
    rw [e2] at q1
    cases e3 : fs k with
    | none => simp only [e3] at q1; exact q1.elim
    | some f =>
      simp only [e3] at q1
      obtain ⟨cm, id, pa, slot, hty, rule⟩ := hm k f e3
      obtain ⟨k1, k2⟩ := kind_is I1 rx Y1 rv e2
      refine ⟨k.T, id, pa, slot, hty, k1, k2, ?_⟩
      have hA := ha.run cpos pins s1 σ H1 _ I1 (rd_bind (rel1 := relA X.K) Y1 S1 q1)
      rw [hs] at hA ⊢
      refine Calls.callWith_builtin (by show (false || (backTo cpos (starEach es X.env)).any (·.1)) = false; rw [hplain] <;> rfl) (Calls.evalArgs_plain ?_)
      refine thn hA fun us s2 ⟨vs, H2, I2, rvs, r2, h2, ds, e4, Y2, S2, ra, q2⟩ => ?_
      exact rule pins s2 σ H2 x vs v us Q I2 rx rvs ⟨r2, h2, d, ds, Y2, rv.mono e4, ra, q2.okK (cm _ _ _)⟩
theorem de_meth0 {name : Str} {fs : Kd → Option FM} {o : Expr} {mo : M} {apos cpos : Pos} (hm : ∀ k f, fs k = some f → Mth X name k f) (ho : DE X CL W c o mo) (hbase : attributeBase o name X.env (eval o X.env) = eval o X.env)
    (hline : (apos.endLine == cpos.line) = true) : DE X CL W c (.Call (.Attribute o name apos) [] [] cpos) (mMt fs mo aNil) := by
  refine ⟨fun pins s σ H Q I ⟨r, t, h, Y, S, q⟩ => ?_⟩
  refine wpAny_Call_method0_late hbase hline (thn (ho.run pins s σ H _ I (rd_bind (rel1 := relD X.K) Y S q)) fun v s1 ⟨x, H1, I1, rx, r1, h1, d, e1, Y1, S1, rv, q1⟩ => ?_)
  cases e2 : kindOf d h1 with
  | none => rw [e2] at q1; exact q1.elim
  | some k =>
    rw [e2] at q1
    cases e3 : fs k with
    | none => simp only [e3] at q1; exact q1.elim
    | some f =>
      simp only [e3] at q1
      obtain ⟨cm, id, pa, slot, hty, rule⟩ := hm k f e3
      obtain ⟨k1, k2⟩ := kind_is I1 rx Y1 rv e2
      have q1 : rdK X.K CL W (relD X.K) r1 H1 σ Q (f d [] h1) := q1
      exact ⟨k.T, id, pa, slot, hty, k1, k2, Calls.callWith_builtin rfl (PySem.evalArgs_none (rule pins s1 σ H1 x [] v [] Q I1 rx .nil ⟨r1, h1, d, [], Y1, rv, .nil, q1.okK (cm _ _ _)⟩))⟩
theorem open_rep {K : PySem.W.Frag} {H : Hp} {r : Rho} {h : Hd} {v : V} {d : D} {i : Nat} {xs : List D} (Y : R K r h H) (q : Rep K H r v d) (e : d.open? h = some (i, xs)) : ∃ a vs, v = .ref a ∧ r.l[i]? = some (some a) ∧ H a = some (.lst vs) ∧ RepA K H r vs xs := by
  cases d with
  | ref j =>
    have e : (match h[j]? with | some (.lst xs) => some (j, xs) | _ => none) = some (i, xs) := e
    split at e
    · rename_i ys e1
      cases e
      cases q with
      | ref f =>
        obtain ⟨o, h1, h2⟩ := Y.get _ _ f
        rw [e1] at h1; cases h1
        obtain ⟨vs, h3, h4⟩ := h2
        exact ⟨_, vs, rfl, f, h3, h4⟩
      | dead f => have := Y.dead _ f; rw [e1] at this; cases this
    · cases e
  | _ => cases e
/-- an open list is given other items -/
theorem put_any {K : PySem.W.Frag} {r : Rho} {H : Hp} {h : Hd} {a : Addr} {i : Nat} {xs : List D} {vs : List V} (Y : R K r h H) (f : r.l[i]? = some (some a)) (k : RepA K H r vs xs) : R K r (h.set i (.lst xs)) (upd H a (.lst vs)) ∧ Ext r H r (upd H a (.lst vs)) := by
  have x : Ext r H r (upd H a (.lst vs)) := Ext.wrote Y (List.mem_iff_getElem?.mpr ⟨i, f⟩)
  exact ⟨Y.wrote f ⟨vs, upd_same, k.mono x⟩, x⟩
theorem me_append : MtE X "list.append" fAppend := by
  intro pins s σ H x xs v us Q I rx rv ⟨r, h, d, ds, Y, rp, ra, q⟩
  unfold fAppend at q
  split at q
  · rename_i i ys y e
    obtain ⟨hz, q⟩ := ok_of q
    obtain ⟨a, vs, rfl, f, h1, k⟩ := open_rep Y rp e
    cases ra with
    | cons ry rn =>
      cases rn
      have z := put_any Y f (k.app (.cons ry .nil))
      exact mt_append pins s σ H _ _ v us Q I rx rv ⟨a, vs, _, rfl, rfl, h1, by rw [k.len]; exact hz, q _ _ _ z.2 z.1 .non⟩
  · exact q.elim
theorem me_pop : MtE X "list.pop" fPop := by
  intro pins s σ H x xs v us Q I rx rv ⟨r, h, d, ds, Y, rp, ra, q⟩
  unfold fPop at q
  split at q
  · rename_i i ys e
    obtain ⟨a, vs, rfl, f, h1, k⟩ := open_rep Y rp e
    split at q
    · rename_i y e1
      cases ra
      obtain ⟨w, e2, rw'⟩ := k.get' e1
      rw [← k.len] at e2
      have kd : RepA X.K H r vs.dropLast ys.dropLast := by
        rw [List.dropLast_eq_take, List.dropLast_eq_take, k.len]
        exact k.take _
      have z := put_any Y f kd
      exact mt_pop pins s σ H _ _ v us Q I rx rv ⟨a, vs, w, rfl, rfl, h1, e2, q _ _ _ z.2 z.1 (rw'.mono z.2)⟩
    · exact q.elim
  · rename_i i ys n e
    obtain ⟨a, vs, rfl, f, h1, k⟩ := open_rep Y rp e
    split at q
    · rename_i j e1
      split at q
      · rename_i y e2
        cases ra with
        | cons ry rn =>
          cases rn
          cases ry
          obtain ⟨w, e3, rw'⟩ := k.get' e2
          have kd : RepA X.K H r (vs.eraseIdx j) (ys.eraseIdx j) := by
            rw [List.eraseIdx_eq_take_drop_succ, List.eraseIdx_eq_take_drop_succ]
            exact (k.take j).app (k.drop (j + 1))
          have z := put_any Y f kd
          have e1' : ixN vs.length n = some j := by rw [k.len]; exact e1
          obtain ⟨s1, s2, s3, s4⟩ := ixN_seq e1'
          have hz : vs.length ≤ sizeLine := (I.lstM h1).1
          rw [sizeLine_eq] at hz
          exact mt_popAt pins s σ H _ _ v us Q I rx rv ⟨a, vs, n, j, w, rfl, rfl, h1, by omega, by omega, s1, e3, q _ _ _ z.2 z.1 (rw'.mono z.2)⟩
      · exact q.elim
    · exact q.elim
  · exact q.elim
theorem me_insert : MtE X "list.insert" fInsert := by
  intro pins s σ H x xs v us Q I rx rv ⟨r, h, d, ds, Y, rp, ra, q⟩
  unfold fInsert at q
  split at q
  · rename_i i ys n y e
    obtain ⟨⟨c1, c2, c3⟩, q⟩ := ok_of q
    obtain ⟨a, vs, rfl, f, h1, k⟩ := open_rep Y rp e
    cases ra with
    | cons rn ra =>
      cases rn
      cases ra with
      | cons ry ra =>
        cases ra
        have z := put_any Y f (((k.take n.toNat).app (.cons ry .nil)).app (k.drop n.toNat))
        exact mt_insert pins s σ H _ _ v us Q I rx rv ⟨a, vs, n, _, rfl, rfl, h1, by rw [k.len]; exact c1, c2, by omega, q _ _ _ z.2 z.1 .non⟩
  · exact q.elim
theorem me_reverse : MtE X "list.reverse" fReverse := by
  intro pins s σ H x xs v us Q I rx rv ⟨r, h, d, ds, Y, rp, ra, q⟩
  unfold fReverse at q
  split at q
  · rename_i i ys e
    obtain ⟨a, vs, rfl, f, h1, k⟩ := open_rep Y rp e
    cases ra
    have z := put_any Y f k.rev
    exact mt_reverse pins s σ H _ _ v us Q I rx rv ⟨a, vs, rfl, rfl, h1, q _ _ _ z.2 z.1 .non⟩
  · exact q.elim
theorem me_clear : MtE X "list.clear" fClear := by
  intro pins s σ H x xs v us Q I rx rv ⟨r, h, d, ds, Y, rp, ra, q⟩
  unfold fClear at q
  split at q
  · rename_i i ys e
    obtain ⟨a, vs, rfl, f, h1, k⟩ := open_rep Y rp e
    cases ra
    have z := put_any Y f .nil
    exact mt_clear pins s σ H _ _ v us Q I rx rv ⟨a, vs, rfl, rfl, h1, q _ _ _ z.2 z.1 .non⟩
  · exact q.elim
/-- a plain tuple's object -/
theorem tup_obj {pins : List (Addr × Obj)} {σ : L2.St} {H : Hp} {s : Shared} {r : Rho} {a : Addr} {vs : List V} (I : Inv X pins σ H s) (f : FzT X.K H r a vs) : ∃ its n, Vals vs its ∧ s.heap.get? a = some { cls := .type "tuple", dict := none, data := .seq its.toArray n, slots := #[] } := by
  obtain ⟨its, rv, ⟨o, ho, hc, n, hd⟩, _⟩ := I.tuple f.seq
  have po : PlainT o := by
    rcases f with ⟨o', f, po, _⟩ | ⟨f, o', lk, po⟩
    · obtain ⟨g, _⟩ := I.hok _ _ f
      rw [g] at ho; cases ho; exact po
    · have g := I.kIn _ _ lk
      rw [g] at ho; cases ho; exact po
  obtain ⟨its', n', eo⟩ := po
  subst eo
  cases hd
  exact ⟨its, n, rv, ho⟩
theorem me_extend : MtE X "list.extend" fExtend := by
  intro pins s σ H x xs v us Q I rx rv ⟨r, h, d, ds, Y, rp, ra, q⟩
  unfold fExtend at q
  split at q
  · rename_i i ys y e
    obtain ⟨a, vs, rfl, f, h1, k⟩ := open_rep Y rp e
    cases ra with
    | cons ry rn =>
      cases rn
      split at q
      · rename_i zs
        obtain ⟨hz, q⟩ := ok_of q
        cases ry with
        | tup g l =>
          have z := put_any Y f (k.app l)
          cases rx
          obtain ⟨u, rfl, ru⟩ := vals1 rv
          cases ru
          obtain ⟨hz1, its, n, rr, hl, e1⟩ := I.lstM h1
          obtain ⟨its2, n2, rr2, e2⟩ := tup_obj I g
          have hl2 := rr2.length
          have kl := k.len
          have ll := l.len
          have hsz : its.toArray.size + its2.toArray.size ≤ sizeLine := by rw [List.size_toArray, List.size_toArray]; omega
          have hlong : ¬ (!its.toArray.isEmpty && Builtin.List.listTooLong (its.toArray.size + its2.toArray.size)) = true := by
            rw [L2.notLongL hsz, Bool.and_false]
            exact Bool.false_ne_true
          refine call_meets F.slot_list_extend ⟨_, e1, rfl⟩ F.entry_list_extend (F.args_list_extend_2 _ _)
            (AutoSeq1.list_extend_list_tuple_0 _ its.toArray n _ its2.toArray n2 hlong (by rw [List.size_toArray]; omega) (by omega)) ⟨e1, e2, ?_⟩
          refine ⟨.non, _, I.lset (its' := its ++ its2) h1 e1 (by simp) (rr.append rr2) ?_, rfl, q _ _ _ z.2 z.1 .non⟩
          rw [List.length_append]
          omega
      · split at q
        · rename_i zs e3
          obtain ⟨hz, q⟩ := ok_of q
          obtain ⟨b, ws, rfl, h2, l⟩ := items_at Y ry e3
          have z := put_any Y f (k.app l)
          exact mt_extend pins s σ H _ _ v us Q I rx rv ⟨a, b, vs, ws, rfl, rfl, h1, h2, by rw [k.len, l.len]; exact hz, q _ _ _ z.2 z.1 .non⟩
        · exact q.elim
  · exact q.elim
/-- what == answers at each place -/
theorem items_eq {pins : List (Addr × Obj)} {σ : L2.St} {H : Hp} {s : Shared} {r : Rho} {vs : List V} {its : List Value} {xs : List D} {y : V} {u : Value} {d : D} {A : Around} (I : Inv X pins σ H s) (hu : A.units + 560 < cLine) (k : RepA X.K H r vs xs) (rv : Vals vs its) (ry : Rep X.K H r y d) (ru : RelV y u)
    (p1 : d.plain = true) (p2 : D.plainA xs = true) (hn : min (D.depA xs) d.dep ≤ 500) : SeqAt.ItemsEq A.in1 s its (xs.map fun z => D.eqv z d) u true := by
  refine ⟨by rw [List.length_map, ← k.len, rv.length], fun j h1 h2 => ?_⟩
  have hj : j < xs.length := by simpa using h2
  have e1 : its[j]? = some its[j] := List.getElem?_eq_getElem h1
  have e2 : xs[j]? = some xs[j] := List.getElem?_eq_getElem hj
  obtain ⟨w, e3, rw'⟩ := k.get' e2
  obtain ⟨u', e4, ru'⟩ := rv.get e3
  rw [e1] at e4; cases e4
  have pj : xs[j].plain = true := plainA_iff.mp p2 _ (List.getElem_mem hj)
  obtain ⟨as, r1⟩ := Dp.reads I _ _ _ (rw'.dp pj) ru'
  obtain ⟨bs, r2⟩ := Dp.reads I _ _ _ (ry.dp p1) ru
  have dj : xs[j].dep ≤ D.depA xs := depA_get _ hj
  have z := SeqAt.eqAt_reads _ _ A.in1 s _ _ as bs r1 r2 rw'.lay ry.lay (by rw [toP_dep, toP_dep]; show A.units + 1 + _ < cLine; omega)
  rw [toP_eqv _ _ pj p1] at z
  rw [List.getElem_map]
  have e5 : decide (D.eqv xs[j] d = true) = D.eqv xs[j] d := by cases D.eqv xs[j] d <;> rfl
  rw [e5]
  exact z
theorem has_mem {xs : List D} {d : D} (h : D.has xs d = true) : true ∈ xs.map fun z => D.eqv z d := by
  unfold D.has at h
  rw [List.any_eq_true] at h
  obtain ⟨z, m, e⟩ := h
  exact List.mem_map.mpr ⟨z, m, e⟩
theorem cmp_seq {y : D} {xs : List D} {e : D} (h : cmpOk y e = true) (h1 : e = .lst xs ∨ e = .scr xs ∨ e = .tup xs) : y.plain = true ∧ D.plainA xs = true ∧ min (D.depA xs) y.dep ≤ 500 := by
  obtain ⟨p1, p2, nr⟩ := cmpOk_parts h
  have hn := near_room nr
  rw [toP_dep, toP_dep] at hn
  rcases h1 with rfl | rfl | rfl
  · simp only [D.dep] at hn
    exact ⟨p1, by simpa [D.plain] using p2, by omega⟩
  · simp only [D.dep] at hn
    exact ⟨p1, by simpa [D.plain] using p2, by omega⟩
  · simp only [D.dep] at hn
    exact ⟨p1, by simpa [D.plain] using p2, by omega⟩
theorem index_list {pins : List (Addr × Obj)} {σ : L2.St} {H : Hp} {s : Shared} {a : Addr} {vs : List V} {xs : List D} {r : Rho} {h : Hd} {Q : VK} {y : V} {u : Value} {d : D} (hu : X.A.units + 560 < cLine) (I : Inv X pins σ H s) (f : SqL X.K H a vs) (k : RepA X.K H r vs xs) (Y : R X.K r h H) (ry : Rep X.K H r y d) (ru : RelV y u)
    (c : d.plain = true ∧ D.plainA xs = true ∧ min (D.depA xs) d.dep ≤ 500) (hh : D.has xs d = true) (q : okK X.K (relD X.K) r H Q (.ok (.int (placeOf xs d : Nat)) h)) : wpAny (model X.prog X.w) X.A (call (.builtin "list.index") [.ref a, u]) (EP X pins σ Q) X.xe s := by
  obtain ⟨its, rv, pl, hz⟩ := I.list f
  exact SeqAt.call_list_index pl.isList (items_eq I hu k rv ry ru c.1 c.2.1 c.2.2) (by rw [List.length_map, ← k.len]; exact hz) (has_mem hh) ⟨.int _, H, I.tok _, ⟨_, rfl⟩, q.now Y (.int _)⟩
theorem me_index (hu : X.A.units + 560 < cLine) : MtE X "list.index" (fun d ds h => match kindOf d h with | some .list => fIndex d ds h | _ => .stuck) := by
  intro pins s σ H x xs v us Q I rx rv ⟨r, h, d, ds, Y, rp, ra, q⟩
  have q : okK X.K (relD X.K) r H Q (match kindOf d h with | some .list => fIndex d ds h | _ => .stuck) := q
  split at q
  · rename_i ek
    unfold fIndex at q
    split at q
    · cases ra with
      | cons ry rn =>
        cases rn
        obtain ⟨u, rfl, ru⟩ := vals1 rv
        split at q
        · rename_i ys e
          obtain ⟨⟨c, hh⟩, q⟩ := ok_of q
          obtain ⟨a, vs, rfl, h1, k⟩ := see_lst Y rp e
          cases rx
          exact index_list hu I (.inl (.inl h1)) k Y ry ru (cmp_seq c (.inl rfl)) hh q
        · rename_i ys e
          obtain ⟨⟨c, hh⟩, q⟩ := ok_of q
          obtain ⟨a, vs, rfl, h1, k⟩ := see_scr rp e
          cases rx
          exact index_list hu I h1 k Y ry ru (cmp_seq c (.inr (.inl rfl))) hh q
        · rename_i ys e
          exfalso
          rcases see_same e (fun _ z => nomatch z) with ⟨i, _, z⟩ | rfl
          · cases z
          · cases ek
        · exact q.elim
    · exact q.elim
  · exact q.elim
theorem me_tindex (hu : X.A.units + 560 < cLine) : MtE X "tuple.index" (fun d ds h => match kindOf d h with | some .tuple => fIndex d ds h | _ => .stuck) := by
  intro pins s σ H x xs v us Q I rx rv ⟨r, h, d, ds, Y, rp, ra, q⟩
  have q : okK X.K (relD X.K) r H Q (match kindOf d h with | some .tuple => fIndex d ds h | _ => .stuck) := q
  split at q
  · rename_i ek
    have ed : ∃ ys, d = .tup ys := by
      cases d with
      | tup ys => exact ⟨ys, rfl⟩
      | ref i =>
        have ek : (match h[i]? with | some (.lst _) => some Kd.list | some (.dict _) => some Kd.dict | _ => none) = some Kd.tuple := ek
        split at ek <;> cases ek
      | _ => cases ek
    obtain ⟨ys, rfl⟩ := ed
    unfold fIndex at q
    split at q
    · cases ra with
      | cons ry rn =>
        cases rn
        obtain ⟨u, rfl, ru⟩ := vals1 rv
        have q : okK X.K (relD X.K) r H Q (if cmpOk _ (.tup ys) ∧ D.has ys _ then .ok (.int (placeOf ys _ : Nat)) h else .stuck) := q
        obtain ⟨⟨c, hh⟩, q⟩ := ok_of q
        obtain ⟨c1, c2, c3⟩ := cmp_seq c (.inr (.inr rfl))
        cases rp with
        | tup f k =>
          cases rx
          obtain ⟨its, rv2, pl, hz⟩ := I.tuple f.seq
          exact SeqAt.call_tuple_index (show s.heap.IsTuple _ its.toArray from pl) (items_eq I hu k rv2 ry ru c1 c2 c3) (has_mem hh) ⟨.int _, H, I.tok _, ⟨_, rfl⟩, q.now Y (.int _)⟩
    · exact q.elim
  · exact q.elim
theorem me_get (hu : X.A.units + 560 < cLine) : MtE X "dict.get" fGet := by
  intro pins s σ H x xs v us Q I rx rv ⟨r, h, d, ds, Y, rp, ra, q⟩
  unfold fGet at q
  split at q
  · rename_i es k e
    obtain ⟨ko, q⟩ := ok_of q
    cases ra with
    | cons ry rn =>
      cases rn
      obtain ⟨u, rfl, ru⟩ := vals1 rv
      obtain ⟨a, rfl, o, g, go⟩ := get_at Y rp e ry ko
      cases rx
      refine d_get1 (by omega) I g ru fun w' s3 I3 rw' => ⟨_, H, I3, rw', ?_⟩
      rcases go with ⟨z, w, e2, e3, r3⟩ | ⟨e2, e3⟩
      · rw [e2]; rw [e3] at q; exact q.now Y r3
      · rw [e2]; rw [e3] at q; exact q.now Y .non
  · rename_i es k z e
    obtain ⟨ko, q⟩ := ok_of q
    cases ra with
    | cons ry rn =>
      cases rn with
      | cons rz rn =>
        cases rn
        obtain ⟨u1, u2, rfl, ru1, ru2⟩ := vals2 rv
        obtain ⟨a, rfl, o, g, go⟩ := get_at Y rp e ry ko
        cases rx
        refine d_get2 (by omega) I g ru1 ru2 fun w' s3 I3 rw' => ⟨_, H, I3, rw', ?_⟩
        rcases go with ⟨z, w, e2, e3, r3⟩ | ⟨e2, e3⟩
        · rw [e2]; rw [e3] at q; exact q.now Y r3
        · rw [e2]; rw [e3] at q; exact q.now Y rz
  · exact q.elim
/-- texts by their codes -/
theorem strs_rep {K : PySem.W.Frag} {H : Hp} {r : Rho} : ∀ {xs : List D} {vs : List V} {ys : List (List Nat)}, RepA K H r vs xs → strsOf xs = some ys → ∃ zs : List Str, vs = zs.map V.str ∧ zs.map (fun z => z.cps.toList) = ys ∧ ∀ z ∈ zs, SOk z
  | [], _, _, .nil, e => by cases e; exact ⟨[], rfl, rfl, fun _ m => by cases m⟩
  | d :: xs, _, ys, .cons q k, e => by
    cases d with
    | str s =>
      have e : (strsOf xs).map (s :: ·) = some ys := e
      cases e1 : strsOf xs with
      | none => rw [e1] at e; cases e
      | some l =>
        rw [e1] at e; cases e
        obtain ⟨z, rfl, e2, ok⟩ := rep_str q
        obtain ⟨zs, rfl, e3, oks⟩ := strs_rep k e1
        refine ⟨z :: zs, rfl, by rw [List.map_cons, e2, e3], fun w m => ?_⟩
        rcases List.mem_cons.mp m with rfl | m
        · exact ok
        · exact oks w m
    | _ => cases e
theorem joinD_eq (y : Str) : ∀ parts : List Str, (Str.join y parts).cps.toList = joinD y.cps.toList (parts.map fun z => z.cps.toList)
  | [] => rfl
  | [p] => rfl
  | p :: q :: r => by
    show (p ++ y ++ Str.join y (q :: r)).cps.toList = _
    have e : ∀ a b : Str, (a ++ b).cps.toList = a.cps.toList ++ b.cps.toList := fun a b => by
      show (a.cps ++ b.cps).toList = _
      rw [Array.toList_append]
    rw [e, e, joinD_eq y (q :: r), List.append_assoc]
    rfl
theorem join_ok {y : Str} (hy : PySem.PyData.strOk y = true) : ∀ {parts : List Str}, (∀ z ∈ parts, SOk z) → PySem.PyData.strOk (Str.join y parts) = true
  | [], _ => by show PySem.PyData.strOk Str.empty = true; decide +kernel
  | [p], h => (h p List.mem_cons_self).1
  | p :: q :: r, h => strOk_append (strOk_append (h p List.mem_cons_self).1 hy) (join_ok hy fun z m => h z (List.mem_cons_of_mem _ m))
theorem joinD_len (s : List Nat) : ∀ ys : List (List Nat), (joinD s ys).length ≤ (ys.map List.length).sum + ys.length * s.length
  | [] => by simp [joinD]
  | [p] => by simp [joinD]
  | p :: q :: r => by
    have ih := joinD_len s (q :: r)
    rw [joinD, List.length_append, List.length_append, List.map_cons, List.sum_cons, List.length_cons, Nat.succ_mul]
    omega
theorem me_join : MtE X "str.join" fJoin := by
  intro pins s σ H x xs v us Q I rx rv ⟨r, h, d, ds, Y, rp, ra, q⟩
  unfold fJoin at q
  split at q
  · rename_i sp y
    obtain ⟨z, rfl, rfl, oz⟩ := rep_str rp
    have core : ∀ {ws : List V} {ys zs : List D} {p : Addr} {ls : List (List Nat)}, RepA X.K H r ws ys → (SqL X.K H p ws ∨ SqT X.K H p ws) → strsOf ys = some ls → (ls.map List.length).sum + ls.length * z.cps.toList.length ≤ 1000000 → okK X.K (relD X.K) r H Q (.ok (.str (joinD z.cps.toList ls)) h) → xs = [.ref p] →
        wpAny (model X.prog X.w) X.A (call (.builtin "str.join") (v :: us)) (EP X pins σ Q) X.xe s := fun {ws ys zs p ls} k f e hz q ex => by
      obtain ⟨zs, rfl, e3, oks⟩ := strs_rep k e
      subst ex
      have e4 : (zs.map (·.length)).sum = (ls.map List.length).sum := by
        rw [← e3, List.map_map]
        exact congrArg List.sum (List.map_congr_left fun w _ => (Array.length_toList (xs := w.cps)).symm)
      have e5 : zs.length = ls.length := by rw [← e3, List.length_map]
      have e6 : z.length = z.cps.toList.length := by rw [Array.length_toList]; rfl
      refine mt_join pins s σ H _ _ v us Q I rx rv ⟨z, p, zs, rfl, rfl, f, by rw [e4, e5, e6]; omega, ?_⟩
      have e7 : Txt.join z zs = Str.join z zs := TL.join_eq z zs
      rw [e7]
      have e8 := joinD_eq z zs
      rw [e3] at e8
      have rp2 : Rep X.K H r (.str (Str.join z zs)) (.str (joinD z.cps.toList ls)) := by
        rw [← e8]
        refine .str _ ⟨join_ok oz.1 oks, ?_⟩
        rw [← Array.length_toList, e8]
        exact Nat.le_trans (joinD_len _ _) hz
      exact q.now Y rp2
    cases ra with
    | cons ry rn =>
      cases rn
      split at q
      · rename_i ys e
        obtain ⟨a, vs, rfl, h1, k⟩ := see_lst Y ry e
        split at q
        · rename_i ls e1
          obtain ⟨hz, q⟩ := ok_of q
          exact core (zs := []) k (.inl (.inl (.inl h1))) e1 hz q rfl
        · exact q.elim
      · rename_i ys e
        obtain ⟨a, vs, rfl, h1, k⟩ := see_tup ry e
        split at q
        · rename_i ls e1
          obtain ⟨hz, q⟩ := ok_of q
          exact core (zs := []) k (.inr h1.seq) e1 hz q rfl
        · exact q.elim
      · exact q.elim
  · exact q.elim
end
end Ev

/-! Ev10: built-in functions, o[i] = e, new dicts. -/
namespace Ev
open PySem L2

abbrev FB := List D → Hd → Res D
def gLen : FB := fun ds h => match ds with
  | [d] => match d.dict? h with
    | some es => .ok (.int (es.length : Nat)) h
    | none => match d.see h with
      | .lst xs => .ok (.int (xs.length : Nat)) h
      | .scr xs => .ok (.int (xs.length : Nat)) h
      | .tup xs => .ok (.int (xs.length : Nat)) h
      | .str s => .ok (.int (s.length : Nat)) h
      | _ => .stuck
  | _ => .stuck
def gInt : FB := fun ds h => match ds with
  | [.int i] => .ok (.int i) h
  | [.bl b] => .ok (.int (if b then 1 else 0)) h
  | _ => .stuck
def gAbs : FB := fun ds h => match ds with
  | [.int i] => .ok (.int (if i < 0 then -i else i)) h
  | _ => .stuck
def gMax : FB := fun ds h => match ds with
  | [.int i, .int j] => .ok (.int (if j > i then j else i)) h
  | _ => .stuck
def gMin : FB := fun ds h => match ds with
  | [.int i, .int j] => .ok (.int (if j < i then j else i)) h
  | _ => .stuck
def seqOf (h : Hd) (d : D) : Option (List D) :=
  match d.see h with
  | .lst xs => some xs
  | .scr xs => some xs
  | .tup xs => some xs
  | _ => none
def gTuple : FB := fun ds h => match ds with
  | [d] => match seqOf h d with
    | some xs => .ok (.tup xs) h
    | none => .stuck
  | _ => .stuck
def gList (m : Bool) : FB := fun ds h => match ds with
  | [d] => match seqOf h d with
    | some xs => fresh m xs h
    | none => .stuck
  | _ => .stuck
def blsOf : List D → Option (List Bool)
  | [] => some []
  | .bl b :: r => (blsOf r).map (b :: ·)
  | _ :: _ => none
def intsOf : List D → Option (List Int)
  | [] => some []
  | .int b :: r => (intsOf r).map (b :: ·)
  | _ :: _ => none
def listOf (h : Hd) (d : D) : Option (List D) :=
  match d.see h with
  | .lst xs => some xs
  | .scr xs => some xs
  | _ => none
def gEvery : FB := fun ds h => match ds with
  | [d] => match (listOf h d).bind blsOf with
    | some bs => .ok (.bl (bs.all id)) h
    | none => .stuck
  | _ => .stuck
def gSome : FB := fun ds h => match ds with
  | [d] => match (listOf h d).bind blsOf with
    | some bs => .ok (.bl (bs.any id)) h
    | none => .stuck
  | _ => .stuck
def gSum : FB := fun ds h => match ds with
  | [d] => match (listOf h d).bind intsOf with
    | some ns => .ok (.int ns.sum) h
    | none => .stuck
  | _ => .stuck
/-- the built-in type's name -/
def tyOf (d : D) (h : Hd) : Option String :=
  match d with
  | .non => some "NoneType"
  | .bl _ => some "bool"
  | .int _ => some "int"
  | .str _ => some "str"
  | .tup _ => some "tuple"
  | .lst _ => some "list"
  | .scr _ => some "list"
  | .ref i => match h[i]? with
    | some (.lst _) => some "list"
    | some (.dict _) => some "dict"
    | _ => none
  | .exc _ _ _ _ => none
inductive Ty where
  | int | bool | str | tuple | list
def Ty.n : Ty → String
  | .int => "int"
  | .bool => "bool"
  | .str => "str"
  | .tuple => "tuple"
  | .list => "list"
def isTy (n : Ty) (t : String) : Bool := t == n.n || (match n with
  | .int => t == "bool"
  | _ => false)
def dIs (n : Ty) (d : D) (h : Hd) : Res D := match tyOf d h with
  | some t => .ok (.bl (isTy n t)) h
  | none => .stuck

section
variable {X : Cx} {CL : List XC} {W : WX} {c : Calls}
def CaE (X : Cx) (v : Value) (f : FB) : Prop := CallR X v fun xs H Q => ∃ r h ds, R X.K r h H ∧ RepA X.K H r xs ds ∧ okK X.K (relD X.K) r H Q (f ds h)
abbrev CalmB (f : FB) : Prop := ∀ ds h c fs h', f ds h ≠ .exn c fs h'
theorem de_bif {x : Str} {id : String} {f : FB} {e : Expr} {es : List Expr} {l : ML} {p pos : Pos} (hf : CalmB f) (hc : CaE X (.builtin id) f) (hg : Gl X x) (hm : X.mg x = none) (hv : bootBuiltins x = some (.builtin id)) (ha : DA X CL W c (e :: es) l) (hn : x ≠ "__name__") (hdb : (x == ("__debug__" : Str)) = false)
    (he : starEach (e :: es) X.env = (false, eval e X.env) :: starEach es X.env) (hpl : (backTo pos (starEach es X.env)).any (·.1) = false) : DE X CL W c (.Call (.Name x p) (e :: es) [] pos) (mB f l) :=
  pimp (pe_callB hc hg hm hv ha hn hdb he hpl) fun σ H Q ⟨r, t, h, Y, S, q⟩ => (rd_bind Y S q).mono fun vs H1 ⟨r1, h1, ds, e1, Y1, S1, ra, q1⟩ => ⟨r1, h1, ds, Y1, ra, q1.okK (hf _ _)⟩
theorem de_bty {x : Str} {T : String} {f : FB} {e : Expr} {es : List Expr} {l : ML} {p pos : Pos} (hf : CalmB f) (hc : CaE X (.type T) f) (hg : Gl X x) (hm : X.mg x = none) (hv : bootBuiltins x = some (.type T)) (ha : DA X CL W c (e :: es) l) (hn : x ≠ "__name__") (hdb : (x == ("__debug__" : Str)) = false)
    (he : starEach (e :: es) X.env = (false, eval e X.env) :: starEach es X.env) (hpl : (backTo pos (starEach es X.env)).any (·.1) = false) : DE X CL W c (.Call (.Name x p) (e :: es) [] pos) (mB f l) :=
  pimp (pe_callTy hc hg hm hv ha hn hdb he hpl) fun σ H Q ⟨r, t, h, Y, S, q⟩ => (rd_bind Y S q).mono fun vs H1 ⟨r1, h1, ds, e1, Y1, S1, ra, q1⟩ => ⟨r1, h1, ds, Y1, ra, q1.okK (hf _ _)⟩
theorem one_of {K : PySem.W.Frag} {H : Hp} {r : Rho} {xs : List V} {d : D} (h : RepA K H r xs [d]) : ∃ v, xs = [v] ∧ Rep K H r v d := by
  cases h with | cons q k => cases k; exact ⟨_, rfl, q⟩
theorem seq_rep {K : PySem.W.Frag} {H : Hp} {r : Rho} {h : Hd} {v : V} {d : D} {xs : List D} (Y : R K r h H) (q : Rep K H r v d) (e : seqOf h d = some xs) : ∃ a vs, v = .ref a ∧ RepA K H r vs xs ∧ (SqL K H a vs ∨ (FzT K H r a vs)) := by
  unfold seqOf at e
  split at e
  · rename_i ys e1
    cases e
    obtain ⟨a, vs, rfl, h1, k⟩ := see_lst Y q e1
    exact ⟨a, vs, rfl, k, .inl (.inl (.inl h1))⟩
  · rename_i ys e1
    cases e
    obtain ⟨a, vs, rfl, h1, k⟩ := see_scr q e1
    exact ⟨a, vs, rfl, k, .inl h1⟩
  · rename_i ys e1
    cases e
    obtain ⟨a, vs, rfl, h1, k⟩ := see_tup q e1
    exact ⟨a, vs, rfl, k, .inr h1⟩
  · cases e
theorem list_rep {K : PySem.W.Frag} {H : Hp} {r : Rho} {h : Hd} {v : V} {d : D} {xs : List D} (Y : R K r h H) (q : Rep K H r v d) (e : listOf h d = some xs) : ∃ a vs, v = .ref a ∧ RepA K H r vs xs ∧ SqL K H a vs := by
  unfold listOf at e
  split at e
  · rename_i ys e1
    cases e
    obtain ⟨a, vs, rfl, h1, k⟩ := see_lst Y q e1
    exact ⟨a, vs, rfl, k, .inl (.inl h1)⟩
  · rename_i ys e1
    cases e
    obtain ⟨a, vs, rfl, h1, k⟩ := see_scr q e1
    exact ⟨a, vs, rfl, k, h1⟩
  · cases e
theorem bls_rep {K : PySem.W.Frag} {H : Hp} {r : Rho} : ∀ {xs : List D} {vs : List V} {bs : List Bool}, RepA K H r vs xs → blsOf xs = some bs → vs = bs.map V.bl
  | [], _, _, .nil, e => by cases e; rfl
  | d :: xs, _, ys, .cons q k, e => by
    cases d with
    | bl s =>
      have e : (blsOf xs).map (s :: ·) = some ys := e
      cases e1 : blsOf xs with
      | none => rw [e1] at e; cases e
      | some l => rw [e1] at e; cases e; cases q; rw [bls_rep k e1]; rfl
    | _ => cases e
theorem ints_rep {K : PySem.W.Frag} {H : Hp} {r : Rho} : ∀ {xs : List D} {vs : List V} {bs : List Int}, RepA K H r vs xs → intsOf xs = some bs → vs = bs.map V.int
  | [], _, _, .nil, e => by cases e; rfl
  | d :: xs, _, ys, .cons q k, e => by
    cases d with
    | int s =>
      have e : (intsOf xs).map (s :: ·) = some ys := e
      cases e1 : intsOf xs with
      | none => rw [e1] at e; cases e
      | some l => rw [e1] at e; cases e; cases q; rw [ints_rep k e1]; rfl
    | _ => cases e
theorem ca_len : CaE X (.builtin "len") gLen := by
  intro pins s σ H xs us Q I rv ⟨r, h, ds, Y, ra, q⟩
  unfold gLen at q
  split at q
  · rename_i d
    obtain ⟨v, rfl, rp⟩ := one_of ra
    split at q
    · rename_i es e
      obtain ⟨a, i, kvs, rfl, _, _, _, h1, l⟩ := dict_at Y rp e
      refine call_lenD pins s σ H _ us Q I rv ⟨a, kvs, rfl, h1, ?_⟩
      rw [repK_len l]
      exact q.now Y (.int _)
    · split at q
      · rename_i ys e
        obtain ⟨a, vs, rfl, h1, k⟩ := see_lst Y rp e
        refine call_len_seq pins s σ H _ us Q I rv ⟨a, vs, rfl, .inl (.inl (.inl h1)), ?_⟩
        rw [k.len]; exact q.now Y (.int _)
      · rename_i ys e
        obtain ⟨a, vs, rfl, h1, k⟩ := see_scr rp e
        refine call_len_seq pins s σ H _ us Q I rv ⟨a, vs, rfl, .inl h1, ?_⟩
        rw [k.len]; exact q.now Y (.int _)
      · rename_i ys e
        obtain ⟨a, vs, rfl, h1, k⟩ := see_tup rp e
        refine call_len_seq pins s σ H _ us Q I rv ⟨a, vs, rfl, .inr h1.seq, ?_⟩
        rw [k.len]; exact q.now Y (.int _)
      · rename_i ys e
        obtain ⟨x, rfl, rfl, ok⟩ := see_str rp e
        refine call_len_str pins s σ H _ us Q I rv ⟨x, rfl, ?_, ?_⟩
        · have := ok.2
          show x.cps.size ≤ _
          rw [sizeLine_eq]; omega
        · have e2 : x.length = x.cps.toList.length := by rw [Array.length_toList]; rfl
          rw [e2]; exact q.now Y (.int _)
      · exact q.elim
  · exact q.elim
theorem ca_int : CaE X (.type "int") gInt := by
  intro pins s σ H xs us Q I rv ⟨r, h, ds, Y, ra, q⟩
  unfold gInt at q
  split at q
  · obtain ⟨v, rfl, rp⟩ := one_of ra
    cases rp
    exact call_int1 pins s σ H _ us Q I rv (.inl ⟨_, rfl, q.now Y (.int _)⟩)
  · obtain ⟨v, rfl, rp⟩ := one_of ra
    cases rp
    exact call_int1 pins s σ H _ us Q I rv (.inr ⟨_, rfl, q.now Y (.int _)⟩)
  · exact q.elim
theorem ca_abs : CaE X (.builtin "abs") gAbs := by
  intro pins s σ H xs us Q I rv ⟨r, h, ds, Y, ra, q⟩
  unfold gAbs at q
  split at q
  · obtain ⟨v, rfl, rp⟩ := one_of ra
    cases rp
    exact call_abs pins s σ H _ us Q I rv ⟨_, rfl, q.now Y (.int _)⟩
  · exact q.elim
theorem two_of {K : PySem.W.Frag} {H : Hp} {r : Rho} {xs : List V} {d e : D} (h : RepA K H r xs [d, e]) : ∃ v w, xs = [v, w] ∧ Rep K H r v d ∧ Rep K H r w e := by
  cases h with | cons q k => cases k with | cons q2 k => cases k; exact ⟨_, _, rfl, q, q2⟩
theorem ca_max (hc : X.calm = true) : CaE X (.builtin "max") gMax := by
  intro pins s σ H xs us Q I rv ⟨r, h, ds, Y, ra, q⟩
  unfold gMax at q
  split at q
  · obtain ⟨v, w, rfl, rp, rq⟩ := two_of ra
    cases rp; cases rq
    exact call_max2 hc pins s σ H _ us Q I rv ⟨_, _, rfl, q.now Y (.int _)⟩
  · exact q.elim
theorem ca_min (hc : X.calm = true) : CaE X (.builtin "min") gMin := by
  intro pins s σ H xs us Q I rv ⟨r, h, ds, Y, ra, q⟩
  unfold gMin at q
  split at q
  · obtain ⟨v, w, rfl, rp, rq⟩ := two_of ra
    cases rp; cases rq
    exact call_min2 hc pins s σ H _ us Q I rv ⟨_, _, rfl, q.now Y (.int _)⟩
  · exact q.elim
theorem ca_list {m : Bool} : CaE X (.type "list") (gList m) := by
  intro pins s σ H xs us Q I rv ⟨r, h, ds, Y, ra, q⟩
  unfold gList at q
  split at q
  · obtain ⟨v, rfl, rp⟩ := one_of ra
    split at q
    · rename_i ys e
      obtain ⟨a, vs, rfl, k, f⟩ := seq_rep Y rp e
      exact call_list_of pins s σ H _ us Q I rv ⟨a, vs, rfl, f.imp id (fun f => f.seq), fun p n => new_shut Y k q n⟩
    · exact q.elim
  · exact q.elim
theorem ca_tuple : CaE X (.type "tuple") gTuple := by
  intro pins s σ H xs us Q I rv ⟨r, h, ds, Y, ra, q⟩
  unfold gTuple at q
  split at q
  · obtain ⟨v, rfl, rp⟩ := one_of ra
    split at q
    · rename_i ys e
      obtain ⟨a, vs, rfl, k, f⟩ := seq_rep Y rp e
      rcases f with f | f
      · obtain ⟨u, rfl, ru⟩ := vals1 rv
        cases ru
        obtain ⟨its, r', pl, hz⟩ := I.list f
        have hlen := r'.length
        have hq : okK X.K (relD X.K) r H Q (freshT ys h) := by
          unfold freshT
          rw [if_pos (by rw [← k.len]; exact hz)]
          exact q
        refine call_tuple_list pl.isList (fun h' kp => ?_) (by simp only [List.size_toArray] <;> omega)
        have I1 : Inv X pins σ H { s with heap := h' } := I.kept (t' := s.toks) kp
        exact ⟨.ref _, _, tup_laid (t' := s.toks) I1 r' hz, rfl, new_tup Y k hq (I1.hok.fresh (Nat.le_refl _)) ⟨_, _, rfl⟩⟩
      · exact call_tupleT pins s σ H _ us Q I rv ⟨a, vs, rfl, f.seq, q.now Y (.tup f k)⟩
    · exact q.elim
  · exact q.elim
theorem ca_all (hc : X.calm = true) : CaE X (.builtin "all") gEvery := by
  intro pins s σ H xs us Q I rv ⟨r, h, ds, Y, ra, q⟩
  unfold gEvery at q
  split at q
  · obtain ⟨v, rfl, rp⟩ := one_of ra
    split at q
    · rename_i bs e
      obtain ⟨ys, e1, e2⟩ := Option.bind_eq_some_iff.mp e
      obtain ⟨a, vs, rfl, k, f⟩ := list_rep Y rp e1
      have := bls_rep k e2
      subst this
      exact cr_all hc pins s σ H _ us Q I rv ⟨a, bs, rfl, f, q.now Y (.bl _)⟩
    · exact q.elim
  · exact q.elim
theorem ca_any (hc : X.calm = true) : CaE X (.builtin "any") gSome := by
  intro pins s σ H xs us Q I rv ⟨r, h, ds, Y, ra, q⟩
  unfold gSome at q
  split at q
  · obtain ⟨v, rfl, rp⟩ := one_of ra
    split at q
    · rename_i bs e
      obtain ⟨ys, e1, e2⟩ := Option.bind_eq_some_iff.mp e
      obtain ⟨a, vs, rfl, k, f⟩ := list_rep Y rp e1
      have := bls_rep k e2
      subst this
      exact cr_any hc pins s σ H _ us Q I rv ⟨a, bs, rfl, f, q.now Y (.bl _)⟩
    · exact q.elim
  · exact q.elim
theorem ca_sum (hc : X.calm = true) : CaE X (.builtin "sum") gSum := by
  intro pins s σ H xs us Q I rv ⟨r, h, ds, Y, ra, q⟩
  unfold gSum at q
  split at q
  · obtain ⟨v, rfl, rp⟩ := one_of ra
    split at q
    · rename_i bs e
      obtain ⟨ys, e1, e2⟩ := Option.bind_eq_some_iff.mp e
      obtain ⟨a, vs, rfl, k, f⟩ := list_rep Y rp e1
      have := ints_rep k e2
      subst this
      exact cr_sum hc pins s σ H _ us Q I rv ⟨a, bs, rfl, f, q.now Y (.int _)⟩
    · exact q.elim
  · exact q.elim

/-! ### isinstance of a built-in type -/
theorem ty_rep {H : Hp} {r : Rho} {h : Hd} {v : V} {d : D} {t : String} (Y : R X.K r h H) (q : Rep X.K H r v d) (e : tyOf d h = some t) : TyX X.K H v (.type t) := by
  cases d with
  | non => cases e; cases q; exact .base .non
  | bl b => cases e; cases q; exact .base (.bl b)
  | int i => cases e; cases q; exact .base (.int i)
  | str s => cases e; obtain ⟨x, rfl, _, _⟩ := rep_str q; exact .base (.str x)
  | tup xs =>
    cases e
    cases q with
    | tup f _ =>
      rcases f with ⟨o, f, _⟩ | ⟨_, o, lk, its, n, eo⟩
      · exact .fTuple f
      · exact .kTuple lk (by rw [eo])
  | lst xs => cases e; cases q with | lst f _ => exact .base (.lst f.1)
  | scr xs =>
    cases e
    cases q with
    | scr f _ =>
      rcases f with ⟨f, _⟩ | f
      · rcases f with f | ⟨o, f⟩
        · exact .base (.lst f)
        · exact .base (.frz f)
      · rcases f with f | ⟨o, its, n, lk, hc, _⟩
        · exact (no_rd f).elim
        · exact .kList lk hc
  | ref i =>
    have e : (match h[i]? with | some (.lst _) => some "list" | some (.dict _) => some "dict" | _ => none) = some t := e
    split at e
    · rename_i xs e1
      cases e
      obtain ⟨a, vs, rfl, h1, _⟩ := items_at Y q (xs := xs) (by unfold D.items?; simp only [e1])
      exact .base (.lst h1)
    · rename_i es e1
      cases e
      obtain ⟨a, j, kvs, rfl, _, _, _, h1, _⟩ := dict_at Y q (es := es) (by unfold D.dict?; simp only [e1])
      exact .base (.dK h1)
    · cases e
  | exc _ _ _ _ => cases e
theorem kit_ok (K : PySem.W.Frag) {t : String} (n : Ty) (h : t = "NoneType" ∨ t = "bool" ∨ t = "int" ∨ t = "str" ∨ t = "tuple" ∨ t = "list" ∨ t = "dict") : PySem.W.kitOne K (.type t) (.type n.n) = some (isTy n t) := by
  rcases h with rfl | rfl | rfl | rfl | rfl | rfl | rfl <;> cases n <;> (first | rfl | kernel_rfl)
theorem ty_names {d : D} {h : Hd} {t : String} (e : tyOf d h = some t) : t = "NoneType" ∨ t = "bool" ∨ t = "int" ∨ t = "str" ∨ t = "tuple" ∨ t = "list" ∨ t = "dict" := by
  cases d with
  | ref i =>
    have e : (match h[i]? with | some (.lst _) => some "list" | some (.dict _) => some "dict" | _ => none) = some t := e
    split at e
    · cases e; simp
    · cases e; simp
    · cases e
  | exc _ _ _ _ => cases e
  | _ => cases e; simp
theorem de_isi {x y : Str} {n : Ty} {e : Expr} {m : M} {p p2 pos : Pos} (hg : Gl X x) (hm : X.mg x = none) (hv : bootBuiltins x = some (.builtin "isinstance")) (hg2 : Gl X y) (hm2 : X.mg y = none) (hv2 : bootBuiltins y = some (.type n.n)) (he : DE X CL W c e m) (hn : x ≠ "__name__") (hdb : (x == ("__debug__" : Str)) = false) (hn2 : y ≠ "__name__") (hdb2 : (y == ("__debug__" : Str)) = false)
    (hs : starEach [e, .Name y p2] X.env = (false, eval e X.env) :: starEach [.Name y p2] X.env) : DE X CL W c (.Call (.Name x p) [e, .Name y p2] [] pos) (mUn (dIs n) m) :=
  pimp (pe_callB (id := "isinstance") call_isi hg hm hv (pa_cons he (pa_cons (pe_bltn hg2 hm2 hv2 (v := .ty n.n) rfl hn2 hdb2) pa_nil rfl) hs) hn hdb hs rfl) fun σ H Q ⟨r, t, h, Y, S, q⟩ => (rd_bind Y S q).mono fun v H1 ⟨r1, h1, d, e1, Y1, S1, rv, q1⟩ => by
    unfold dIs at q1
    split at q1
    · rename_i t et
      exact ⟨v, .ty n.n, .type t, .type n.n, _, rfl, .ty _, ty_rep Y1 rv et, kit_ok X.K n (ty_names et), q1.now Y1 (.bl _)⟩
    · exact q1.elim
end
end Ev

/-! Ev11: making an error of an own class: super().__init__(text), then its fields. -/
namespace Ev
open PySem PySem.Spec PyProof.Rows L2 PySem.Calls
open PySem.W (Frag)

/-- self.f = f, for each field -/
inductive Puts : List Stmt → List Str → Prop
  | nil : Puts [] []
  | cons {f : Str} {p1 p2 p3 p4 : Pos} {r : List Stmt} {fs : List Str} : Puts r fs → Puts (.Assign [.Attribute (.Name "self" p1) f p2] (.Name f p3) p4 :: r) (f :: fs)
def putAll : List (Str × Value) → (Str → Option Value) → Str → Option Value
  | [], m => m
  | (f, v) :: r, m => putAll r fun y => if y = f then some v else m y
/-- what the written part says of an own error class at C: its __init__ at fI, the cell of its name at cc, the code object at cda -/
structure XTxt (K : Frag) (prog : Program) (C : Addr) (fs : List Str) (fI cda cc : Addr) : Prop where
  oex : OexC K C
  noN : ∀ f ∈ fs, PySem.W.findIn K (.ref C) f = some none
  iC : PySem.W.findIn K (.ref C) "__init__" = some (some (.ref fI))
  tI : PySem.W.typeIn K (.ref fI) = some (.type "function")
  fn : ∃ (q : Str) (params : Arguments) (sc : Scope) (doc pm ct oc : Value) (an od : Option Addr) (osl : Array (Option Value)) (p0 p1 p2 p3 p4 p5 : Pos) (m : Str) (j : Nat) (puts : List Stmt),
    K.lookup fI = some ⟨oc, od, .func (PySem.W.ksFn "__init__" q params (.Expr (.Call (.Attribute (.Call (.Name "super" p0) [] [] p1) "__init__" p2) [.Constant (.str m) j p3] [] p4) p5 :: puts) sc .none .none doc pm an (.ref cda) ct cc), osl⟩ ∧
      PySem.W.codeIn K (.ref cda) q = true ∧ Puts puts fs ∧ sc.names.lookup ("super" : Str) = some .globalImplicit ∧ sc.names.lookup ("__class__" : Str) = some .free ∧ sc.names.lookup ("self" : Str) = some .local ∧ (∀ f ∈ fs, sc.names.lookup f = some .local) ∧
      (∀ x ∈ sc.names, x.2 ≠ .cell) ∧ sc.isCoroutine = false ∧ sc.isGenerator = false ∧ sc.kind = .function ∧ (∃ ar, (params.posonlyargs ++ params.args).head? = some ar ∧ ar.arg = "self") ∧
      (∀ env : Env, ∃ pl : Sem Bool, eval (.Call (.Attribute (.Call (.Name "super" p0) [] [] p1) "__init__" p2) [.Constant (.str m) j p3] [] p4) env = (do
        let ov ← attributeBase (.Call (.Name "super" p0) [] [] p1) "__init__" env (eval (.Call (.Name "super" p0) [] [] p1) env)
        standAt p2.atName
        let (f, first) ← holding [ov] (getMethod ov "__init__" pl)
        callWith p4 f first (backTo p4 (starEach [.Constant (.str m) j p3] env)) [])) ∧
      (∀ us : List Value, us.length = fs.length → ∀ x, bindArgs (PySem.W.ksFn "__init__" q params (.Expr (.Call (.Attribute (.Call (.Name "super" p0) [] [] p1) "__init__" p2) [.Constant (.str m) j p3] [] p4) p5 :: puts) sc .none .none doc pm an (.ref cda) ct cc) ⟨x :: us, []⟩ = pure ((("self" : Str), x) :: fs.zip us))
  nd : fs.Nodup
  ns : ("self" : Str) ∉ fs
  nc : ∀ f ∈ fs, (f == ("__debug__" : Str)) = false
  code : ∃ (ccl : Value) (cdd : Option Addr) (ccs : Array (Option Value)) (vs : Array Value) (file : Str) (tf : Tok), K.lookup cda = some ⟨ccl, cdd, .fields vs, ccs⟩ ∧ vs[2]? = some (.str file tf) ∧ ((prog.main.file : Str) == file) = true
  cell : ∃ (cl : Value) (cld : Option Addr) (csl : Array (Option Value)), K.lookup cc = some ⟨cl, cld, .cell (some (.ref C)), csl⟩
  sup : PySem.W.ks_superIn K C C "__init__" = some (some (.builtin "ValueError.__init__"))
  isV : PySem.W.subIn K (.ref C) (.type "ValueError") = some true
  opq : PySem.W.nsIn K cStatics "thirdparty.any" = some none
  sub : PySem.W.mroIn K C (.ref C) = some true
  top : (prog.main.scope.names.lookup ("super" : Str)).isSome = false

theorem lookup_mem {β : Type} : ∀ {l : List (Str × β)} {k : Str} {v : β}, l.lookup k = some v → (k, v) ∈ l
  | [], _, _, h => by cases h
  | (a, b) :: l, k, v, h => by
    rw [List.lookup_cons] at h
    split at h
    · rename_i e
      cases h
      rw [beq_iff_eq] at e
      subst e
      exact List.mem_cons_self
    · exact List.mem_cons_of_mem _ (lookup_mem h)
theorem mem_lookup {β : Type} : ∀ {l : List (Str × β)} {k : Str} {v : β}, (l.map (·.1)).Nodup → (k, v) ∈ l → l.lookup k = some v
  | [], _, _, _, h => by cases h
  | (a, b) :: l, k, v, nd, h => by
    rw [List.map_cons, List.nodup_cons] at nd
    rcases List.mem_cons.mp h with e | h
    · cases e
      rw [List.lookup_cons, beq_self_eq_true]
    · have ne : k ≠ a := fun e => nd.1 (List.mem_map.mpr ⟨(k, v), h, e⟩)
      rw [List.lookup_cons, beq_eq_false_iff_ne.mpr ne]
      exact mem_lookup nd.2 h
theorem List.nodup_reverse_iff_aux {α : Type} {l : List α} (h : l.Nodup) : l.reverse.Nodup := by
  rw [List.Nodup, List.pairwise_reverse]
  exact h.imp fun h => Ne.symm h
theorem lookup_rev {β : Type} {l : List (Str × β)} (nd : (l.map (·.1)).Nodup) (k : Str) : l.reverse.lookup k = l.lookup k := by
  have nr : (l.reverse.map (·.1)).Nodup := by
    rw [List.map_reverse]
    exact (List.nodup_reverse_iff_aux nd)
  cases e : l.lookup k with
  | some v => exact mem_lookup nr (List.mem_reverse.mpr (lookup_mem e))
  | none =>
    cases e2 : l.reverse.lookup k with
    | none => rfl
    | some v =>
      have := mem_lookup nd (List.mem_reverse.mp (lookup_mem e2))
      rw [e] at this; cases this
theorem zip_keys {β : Type} : ∀ (fs : List Str) (us : List β), us.length = fs.length → (fs.zip us).map (·.1) = fs
  | [], [], _ => rfl
  | f :: fs, u :: us, h => by
    rw [List.zip_cons_cons, List.map_cons, zip_keys fs us (by simpa using h)]
  | [], _ :: _, h => by simp at h
  | _ :: _, [], h => by simp at h
theorem relO_putAll : ∀ {l : List (Str × V)} {lu : List (Str × Value)} {b : List (Str × V)} {m : Str → Option Value}, Paired (fun (p : Str × V) (q : Str × Value) => p.1 = q.1 ∧ RelV p.2 q.2) l lu → (∀ g, RelO (b.lookup g) (m g)) →
    ∀ g, RelO ((l.reverse ++ b).lookup g) (putAll lu m g)
  | _, _, b, m, .nil, h, g => h g
  | _, _, b, m, .cons (a := (f, v)) (b := (f', u)) r t, h, g => by
    obtain ⟨rfl, rv⟩ : f = f' ∧ RelV v u := r
    rw [List.reverse_cons, List.append_assoc]
    exact relO_putAll (b := (f, v) :: b) t (fun g => relO_put rv h g) g
theorem kept_but' {K : Frag} {h h' : Heap} {x : Addr} (X : K.In h) (hx : K.lookup x = none) (k : ∀ b o, b ≠ x → h.get? b = some o → h'.get? b = some o) : K.In h' := fun a o e =>
  k a o (fun z => by rw [z, hx] at e; cases e) (X a o e)
section
variable {prog : Program} {w : World} {A : Around} {E : Value → Shared → Prop} {K : Frag} {C fI cda cc x dx L : Addr} {q : Str} {sc : Scope} {g : Array GenState} {d : Drawn} {os : OsState} {fv : Array Value}
theorem ldE {M : Model} {s : Shared} {m : Str → Option Value} {y : Str} {pos : Pos} {v : Value} {Q : Value → Shared → Prop} {cd : Value} (hn : s.heap.Ns L m) (hv : m y = some v) (hk : sc.kind = .function) (hl : sc.names.lookup y = some .local) (hd : (y == ("__debug__" : Str)) = false) (h : Q v s) :
    wpAny M A (eval (.Name y pos) (PySem.W.ksEnv q sc L fI cd cc)) Q E s := wpAny_Name (wpAny_loadName_local (env := PySem.W.ksEnv q sc L fI cd cc) hk hl hn hv h) hd
theorem puts_old (T : OexC K C) (hk : sc.kind = .function) (hself : sc.names.lookup ("self" : Str) = some .local) : ∀ {puts : List Stmt} {fs : List Str} {us : List Value} {hp : Heap} {tk : Nat} {m0 mL : Str → Option Value} {nl : List Str} {Q : Flow → Shared → Prop}, Puts puts fs → us.length = fs.length →
    (∀ f ∈ fs, PySem.W.findIn K (.ref C) f = some none) → (∀ f ∈ fs, sc.names.lookup f = some .local) → (∀ f ∈ fs, (f == ("__debug__" : Str)) = false) → K.In hp → K.lookup dx = none → hp.get? x = some { cls := .ref C, dict := some dx, data := .fields fv } → dx ≠ x → hp.Ns1 dx m0 → Within m0 nl → nl.length + fs.length ≤ 1000 →
    hp.Ns L mL → L ≠ dx → mL "self" = some (.ref x) → (∀ p ∈ fs.zip us, mL p.1 = some p.2) →
    (∀ h' tk', (∀ b o, b ≠ dx → hp.get? b = some o → h'.get? b = some o) → h'.Ns1 dx (putAll (fs.zip us) m0) → Q .next ⟨h', g, d, tk', os⟩) →
    wpAny (model prog w) A (execs puts (PySem.W.ksEnv q sc L fI (.ref cda) cc)) Q E ⟨hp, g, d, tk, os⟩
  | _, _, [], hp, tk, m0, mL, nl, Q, .nil, _, _, _, _, X, hK, hx, ne, hns, hw, hl, hL, hLd, hS, hF, hq => by
    exact wpAny_execs_nil (hq hp tk (fun _ _ _ e => e) hns)
  | _, _, [], hp, tk, m0, mL, nl, Q, .cons _, h, _, _, _, X, hK, hx, ne, hns, hw, hl, hL, hLd, hS, hF, hq => by simp at h
  | _, _, _ :: _, hp, tk, m0, mL, nl, Q, .nil, h, _, _, _, X, hK, hx, ne, hns, hw, hl, hL, hLd, hS, hF, hq => by simp at h
  | _, _, u :: us, hp, tk, m0, mL, nl, Q, .cons (f := f) (fs := fs) P, h, hno, hlo, hdb, X, hK, hx, ne, hns, hw, hl, hL, hLd, hS, hF, hq => by
    obtain ⟨nm, q, N, bs, bm, sn, sub, ab, col, dd, k0, k1, k2, k3, k5, hC, hbm⟩ := T.cls
    have hcl : PySem.W.clsIn K C = some { name := nm, bases := bs, mro := .ref C :: bm, ns := N, qualname := q, hasDict := true, slotNames := sn, subclasses := sub, abstract := ab, collection := col, hasDel := false } := by unfold PySem.W.clsIn; rw [hC] <;> rfl
    obtain ⟨oD, _, _, hoD, _, _⟩ := hns.count hw
    refine wpAny_execs_cons (plainObj_wpAny_Assign_Attribute ?_)
    refine ldE hL (hF (f, u) (by simp)) hk (hlo _ (by simp)) (hdb _ (by simp)) (ldE hL hS hk hself (by decide) ?_)
    refine PySem.W.set_plain X (ox := { cls := .ref C, dict := some dx, data := .fields fv }) (od := some oD) ⟨hx, rfl, rfl, hoD⟩ T.sa ?_
    refine PySem.OEX.osa_old X hx hns hw (by simp at hl; omega) hcl (show PySem.HandSPX.refsVE (.ref C :: bm) = true from hbm) rfl (hno _ (by simp)) (fun h' tk' k hn => ?_)
    have hL' : h'.Ns L mL := hL.at fun o e => k L o hLd e
    refine puts_old T hk hself (m0 := fun y => if y = f then some u else m0 y) (nl := f :: nl) P (by simpa using h) (fun g m => hno g (by simp [m])) (fun g m => hlo g (by simp [m])) (fun g m => hdb g (by simp [m])) (kept_but' X hK k) hK (k _ _ (Ne.symm ne) hx) ne hn (Within.cons f u hw) (by simp at hl ⊢; omega)
      hL' hLd hS (fun p m => hF p (by simp [m])) (fun h2 tk2 k2 hn2 => hq h2 tk2 (fun b o hb e => k2 b o hb (k b o hb e)) hn2)
end
end Ev

/-! Ev12: the walk through an own error's __init__. -/
namespace Ev
open PySem PySem.Spec PyProof.Rows L2 PySem.Calls
open PySem.W (Frag)
section
variable {prog : Program} {w : World} {A : Around} {E : Value → Shared → Prop} {K : Frag} {C fI cda cc x dx L : Addr} {q : Str} {sc : Scope} {g : Array GenState} {d : Drawn} {os : OsState}
structure XEnd (h h' : Heap) (x C dx t1 : Addr) (m : Str → Option Value) : Prop where
  keep : ∀ b o, b ≠ x → h.get? b = some o → h'.get? b = some o
  obj : h'.get? x = some { cls := .ref C, dict := some dx, data := .fields #[.ref t1, .none, .none, .none, .bool false, .none] }
  dbig : h.objs.size ≤ dx
  dne : dx ≠ x
  ns : h'.Ns1 dx m
theorem no_key {h : Heap} {a : Addr} (X : K.In h) (ha : h.objs.size ≤ a) : K.lookup a = none := by
  cases e : K.lookup a with
  | none => rfl
  | some o =>
    have z := X _ _ e
    exact absurd (Nat.lt_of_lt_of_le (Heap.lt_size z) ha) (Nat.lt_irrefl _)
theorem puts_new (T : OexC K C) (hk : sc.kind = .function) (hself : sc.names.lookup ("self" : Str) = some .local) {puts : List Stmt} {f : Str} {fs : List Str} {u : Value} {us : List Value} {hp : Heap} {tk : Nat} {t1 : Addr} {mL : Str → Option Value} {Q : Flow → Shared → Prop} (P : Puts puts (f :: fs)) (h : us.length = fs.length)
    (hno : ∀ g ∈ f :: fs, PySem.W.findIn K (.ref C) g = some none) (hlo : ∀ g ∈ f :: fs, sc.names.lookup g = some .local) (hdb : ∀ g ∈ f :: fs, (g == ("__debug__" : Str)) = false) (X : K.In hp) (hK : K.lookup x = none) (hx : hp.get? x = some (PySem.HandSPX.excO C t1)) (hz : fs.length ≤ 900)
    (hL : hp.Ns L mL) (hLx : L ≠ x) (hS : mL "self" = some (.ref x)) (hF : ∀ p ∈ (f :: fs).zip (u :: us), mL p.1 = some p.2)
    (hq : ∀ h' tk' dx, XEnd hp h' x C dx t1 (putAll ((f :: fs).zip (u :: us)) fun _ => none) → Q .next ⟨h', g, d, tk', os⟩) :
    wpAny (model prog w) A (execs puts (PySem.W.ksEnv q sc L fI (.ref cda) cc)) Q E ⟨hp, g, d, tk, os⟩ := by
  cases P with
  | cons P =>
    obtain ⟨nm, q, N, bs, bm, sn, sub, ab, col, dd, k0, k1, k2, k3, k5, hC, hbm⟩ := T.cls
    have hcl : PySem.W.clsIn K C = some { name := nm, bases := bs, mro := .ref C :: bm, ns := N, qualname := q, hasDict := true, slotNames := sn, subclasses := sub, abstract := ab, collection := col, hasDel := false } := by unfold PySem.W.clsIn; rw [hC] <;> rfl
    refine wpAny_execs_cons (plainObj_wpAny_Assign_Attribute ?_)
    refine ldE hL (hF (f, u) (by simp)) hk (hlo _ (by simp)) (hdb _ (by simp)) (ldE hL hS hk hself (by decide) ?_)
    refine PySem.W.set_plain X (ox := PySem.HandSPX.excO C t1) (od := none) ⟨hx, rfl, rfl, trivial⟩ T.sa ?_
    refine PySem.HandSPX.exc_osa X hx hcl (show PySem.HandSPX.refsVE (.ref C :: bm) = true from hbm) rfl (hno _ (by simp)) (fun h3 tk3 dx k3 dn dne hx3 hn3 => ?_)
    have hL3 : h3.Ns L mL := hL.at fun o e => k3 L o hLx e
    have hLd : L ≠ dx := fun z => by
      obtain ⟨oL, _, _, e, _⟩ := hL
      rw [z] at e
      exact absurd (Nat.lt_of_lt_of_le (Heap.lt_size e) dn) (Nat.lt_irrefl _)
    refine puts_old T hk hself (m0 := fun y => if y = f then some u else none) (nl := [f]) P h (fun g m => hno g (by simp [m])) (fun g m => hlo g (by simp [m])) (fun g m => hdb g (by simp [m])) (kept_but' X hK k3) (no_key X dn) hx3 dne hn3 (Within.cons f u fun y h => (h rfl).elim) (by simp; omega)
      hL3 hLd hS (fun p m => hF p (by simp [m])) (fun h2 tk2 k2 hn2 => hq h2 tk2 dx ⟨fun b o hb e => k2 b o (fun z => ?_) (k3 b o hb e), k2 _ _ (Ne.symm dne) hx3, dn, dne, hn2⟩)
    rw [z] at e
    exact absurd (Nat.lt_of_lt_of_le (Heap.lt_size e) dn) (Nat.lt_irrefl _)
/-- the bound ValueError.__init__ -/
theorem mw_call (T : OexC K C) {hp : Heap} {tk : Nat} {u t1 : Addr} {rest : List Value} {Q : Value → Shared → Prop} (X : K.In hp) (hx : hp.get? x = some (PySem.HandSPX.excO C t1)) (hu : hp.get? u = some (PySem.W.kxs_mw "ValueError.__init__" x)) (hz : rest.length ≤ sizeLine)
    (hq : ∀ h' t2, (∀ b o, b ≠ x → hp.get? b = some o → h'.get? b = some o) → h'.get? x = some (PySem.HandSPX.excO C t2) → Q .none ⟨h', g, d, tk, os⟩) :
    wpAny (model prog w) A (call (.ref u) rest) Q E ⟨hp, g, d, tk, os⟩ := by
  obtain ⟨nm, q, N, bs, bm, sn, sub, ab, col, dd, k0, k1, k2, k3, k5, hC, hbm⟩ := T.cls
  refine wpAny_call (codeAny_of_tree ?_)
  show wpAny _ A.in1 (callAny (.ref u) ⟨rest, []⟩) _ _ _
  simp only [callAny]
  refine wpAny_bind (wpAny_load hu ?_)
  simp only [PySem.W.kxs_mw, show (Value.type "method-wrapper" == Value.type "method" || Value.type "method-wrapper" == Value.type "builtin_function_or_method" || Value.type "method-wrapper" == Value.type "method-wrapper") = true by decide, if_true]
  refine PySem.W.KFB.if_so (by decide) ?_
  refine wpAny_bind (PySem.W.check_bound_init F.excBase_ValueError.toExcCallFacts (X _ _ hC) hx rfl ?_)
  refine wpAny_bind (wpAny_pure (wpAny_pure ?_))
  refine ⟨plainId_quiet F.excBase_ValueError.init.plain _, codeAny_builtin F.excBase_ValueError.initEntry ?_⟩
  exact PySem.W.exc_init_tree (cls := .ref C) (t0 := t1) (dv := none) (c2 := .none) (c3 := .none) (b4 := .bool false) hx hz fun h' k e _ => hq h' _ k e
theorem xi_init {fs : List Str} {us : List Value} {R : Result → Shared → Prop} {s : Shared} {t0 : Addr} {mg mb : Str → Option Value} (T : XTxt K prog C fs fI cda cc) (X : K.In s.heap) (hlim : s.heap.NoLimit) (G : s.heap.Ns mainGlobals mg) (hmg : mg "super" = none) (B : s.heap.Ns builtinsNs mb) (hmb : mb "super" = some (.type "super"))
    (hx : s.heap.get? x = some (PySem.HandSPX.excO C t0)) (hnx : K.lookup x = none) (hroom : A.depth < recursionLimit) (hl : us.length = fs.length) (hfs : fs ≠ []) (hz : fs.length ≤ 900)
    (hq : ∀ h' tk dx t1, XEnd s.heap h' x C dx t1 (putAll (fs.zip us) fun _ => none) → R (.ok (.ret .none)) { s with heap := h', toks := tk }) :
    codeAny (model prog w) A (.call (.ref fI) ⟨.ref x :: us, []⟩) R s := by
  obtain ⟨q, params, sc, doc, pm, ct, oc, an, od, osl, p0, p1, p2, p3, p4, p5, m, j, puts, lk, hcd, P, s1, s2, s3, s4, s5, s6, s7, s8, ⟨ar, a1, a2⟩, hev, hb⟩ := T.fn
  obtain ⟨skind, snames, sgen, sco, smore⟩ := sc
  dsimp only at s1 s2 s3 s4 s5 s6 s7 s8
  subst s6 s7 s8
  obtain ⟨ccl, cdd, ccs, vs, file, tf, lc, hvs, hfile⟩ := T.code
  obtain ⟨cl, cld, csl, lcell⟩ := T.cell
  obtain ⟨nm, qn, N, bs, bm, sn, sub, ab, col, dd, k0, k1, k2, k3, k5, hC, hbm⟩ := T.oex.cls
  have hcl : PySem.W.clsIn K C = some { name := nm, bases := bs, mro := .ref C :: bm, ns := N, qualname := qn, hasDict := true, slotNames := sn, subclasses := sub, abstract := ab, collection := col, hasDel := false } := by unfold PySem.W.clsIn; rw [hC] <;> rfl
  refine PySem.ks_codeAny_call_defAt (fd := PySem.W.ksFn "__init__" q params (.Expr (.Call (.Attribute (.Call (.Name "super" p0) [] [] p1) "__init__" p2) [.Constant (.str m) j p3] [] p4) p5 :: puts) ⟨.function, snames, false, false, smore⟩ .none .none doc pm an (.ref cda) ct cc)
    (binds := (("self" : Str), .ref x) :: fs.zip us) hroom (X _ _ lk) rfl hlim (PySem.W.codeRec_of X hcd) rfl (BindsTo.of_eq (hb us hl (.ref x))) s5 (fun y hy => ?_) (fun h₀ hns hk₀ => ?_) rfl rfl rfl
  · rcases List.mem_cons.mp hy with rfl | hy
    · exact s3
    · exact s4 y.1 (List.of_mem_zip hy).1
  · have X0 : K.In h₀ := X.keeps hk₀
    have hx0 := hk₀ _ _ hx
    have G0 : h₀.Ns mainGlobals mg := G.keeps hk₀
    have B0 : h₀.Ns builtinsNs mb := B.keeps hk₀
    have hself : (((("self" : Str), Value.ref x) :: fs.zip us).reverse).lookup ("self" : Str) = some (.ref x) := by
      rw [lookup_rev (by rw [List.map_cons, zip_keys _ _ hl]; exact List.nodup_cons.mpr ⟨T.ns, T.nd⟩), List.lookup_cons, beq_self_eq_true]
    have hfld : ∀ p ∈ fs.zip us, (((("self" : Str), Value.ref x) :: fs.zip us).reverse).lookup p.1 = some p.2 := fun p hp => by
      rw [lookup_rev (by rw [List.map_cons, zip_keys _ _ hl]; exact List.nodup_cons.mpr ⟨T.ns, T.nd⟩)]
      exact mem_lookup (by rw [List.map_cons, zip_keys _ _ hl]; exact List.nodup_cons.mpr ⟨T.ns, T.nd⟩) (List.mem_cons_of_mem _ hp)
    have hLx : s.heap.objs.size ≠ x := Nat.ne_of_gt (Heap.lt_size hx)
    obtain ⟨pl, he⟩ := hev (PySem.W.ksEnv q ⟨.function, snames, false, false, smore⟩ s.heap.objs.size fI (.ref cda) cc)
    refine PySem.ks_wpAt_execs_cons (PySem.ks_wpAt_Expr_any (PySem.ks_wpAt_MethodCall ?_ he))
    refine PySem.ks_wpAt_super_base (env := PySem.W.ksEnv q ⟨.function, snames, false, false, smore⟩ s.heap.objs.size fI (.ref cda) cc) s1 s2 (by decide) rfl (X0 _ _ lk) rfl a1 rfl (X0 _ _ lc) rfl hvs hfile T.top ?_
    refine PySem.W.ks_loadName_global rfl s1 (loadGlobal_builtin (env := PySem.W.ksEnv q ⟨.function, snames, false, false, smore⟩ s.heap.objs.size fI (.ref cda) cc) G0 hmg B0 hmb ⟨rfl, ?_⟩)
    refine wpAny_loadName_free rfl s2 rfl ⟨_, X0 _ _ lcell, rfl⟩ ?_
    rw [a2]
    refine wpAny_loadName_local (env := PySem.W.ksEnv q ⟨.function, snames, false, false, smore⟩ s.heap.objs.size fI (.ref cda) cc) rfl s3 hns hself ?_
    have hC0 := X0 _ _ hC
    refine PySem.ks_wpAny_isType_cls hC0 rfl ⟨rfl, ?_⟩
    refine PySem.ks_wpAny_call_super hC0 rfl hx0 rfl (fun c e => by cases e) (PySem.W.looks_mroIn X0 T.sub) (fun h1 e1 k1 => ?_)
    have X1 : K.In h1 := X0.keeps k1
    have hx1 := k1 _ _ hx0
    have I1 : PySem.W.InstAt h1 x (PySem.HandSPX.excO C t0) C none := ⟨hx1, rfl, rfl, trivial⟩
    have hsup := T.sup
    unfold PySem.W.ks_superIn at hsup
    rw [hcl] at hsup
    refine PySem.W.kxs_getMethod PySem.W.kxs_ValueError e1 (PySem.W.looks_opaque X1 T.opq) (l₀ := .ref C :: bm) (fun A Q E s k q => wpAny_bind ((PySem.W.looks_clsIn X1 hcl) A _ E s k (wpAny_pure q))) rfl X1 hsup
      (I1.type.andThen (PySem.W.looks_subIn X1 T.isV)) (PySem.W.ks_ne X1 I1 hcl) (by decide) ?_
    have k2 : ∀ b o, h1.get? b = some o → (h1.push (PySem.W.kxs_mw "ValueError.__init__" x)).get? b = some o := fun b o e => Heap.get?_push_of_some _ e
    have hu : (h1.push (PySem.W.kxs_mw "ValueError.__init__" x)).get? h1.objs.size = some (PySem.W.kxs_mw "ValueError.__init__" x) := Heap.get?_push_at rfl rfl
    refine PySem.W.kxs_callWith (i := "ValueError.__init__") (x := x) rfl (evalArgs_plain (Calls.spliced_cons (Calls.Constant_str (k := j) (pos := p3) (Calls.spliced_nil ⟨hu, ?_⟩))))
    have X2 : K.In (h1.push (PySem.W.kxs_mw "ValueError.__init__" x)) := X1.keeps k2
    have hx2 := k2 _ _ hx1
    refine mw_call T.oex X2 hx2 hu (by show 1 ≤ sizeLine; rw [sizeLine_eq]; omega) fun h3 t3 k3 hx3 => ?_
    obtain ⟨f, fs', rfl⟩ : ∃ f fs', fs = f :: fs' := by
      cases fs with
      | nil => exact (hfs rfl).elim
      | cons f fs => exact ⟨f, fs, rfl⟩
    obtain ⟨u, us', rfl⟩ : ∃ u us', us = u :: us' := by
      cases us with
      | nil => simp at hl
      | cons u us => exact ⟨u, us, rfl⟩
    have k13 : ∀ b o, b ≠ x → h₀.get? b = some o → h3.get? b = some o := fun b o hb e => k3 b o hb (k2 b o (k1 b o e))
    refine wpAt_of_wpAny (puts_new (cda := cda) (cc := cc) T.oex rfl s3 P (by simpa using hl) T.noN s4 T.nc (kept_but' X0 hnx k13) hnx hx3 (by simp at hz; omega) (hns.at fun o e => k13 _ o hLx e) hLx hself hfld fun h4 tk4 dx M => ?_)
    refine hq h4 tk4 dx t3 ⟨fun b o hb e => M.keep b o hb (k13 b o hb (hk₀ b o e)), M.obj, ?_, M.dne, M.ns⟩
    have z : s.heap.objs.size < h3.objs.size := (hns.at fun o e => k13 _ o hLx e).lt
    exact Nat.le_of_lt (Nat.lt_of_lt_of_le z M.dbig)
structure XMade (h h' : Heap) (e C d : Addr) (m : Str → Option Value) : Prop where
  keep : ∀ b o, h.get? b = some o → h'.get? b = some o
  new : h.objs.size ≤ e
  obj : ∃ oe vs, h'.get? e = some oe ∧ oe.cls = .ref C ∧ oe.dict = some d ∧ oe.data = .fields vs ∧ vs[1]? = some .none
  dbig : h.objs.size ≤ d
  dne : d ≠ e
  ns : h'.Ns1 d m
theorem xi_made {fs : List Str} {us : List Value} {R : Result → Shared → Prop} {s : Shared} {mg mb : Str → Option Value} (T : XTxt K prog C fs fI cda cc) (X : K.In s.heap) (hlim : s.heap.NoLimit) (G : s.heap.Ns mainGlobals mg) (hmg : mg "super" = none) (B : s.heap.Ns builtinsNs mb) (hmb : mb "super" = some (.type "super"))
    (hroom : A.depth + 1 < recursionLimit) (hl : us.length = fs.length) (hfs : fs ≠ []) (hz : fs.length ≤ 900)
    (hq : ∀ h' tk e d, XMade s.heap h' e C d (putAll (fs.zip us) fun _ => none) → R (.ok (.ret (.ref e))) { s with heap := h', toks := tk }) :
    codeAny (model prog w) A (.call (.ref C) ⟨us, []⟩) R s := by
  obtain ⟨nm, q, N, bs, bm, sn, sub, ab, col, dd, k0, k1, k2, k3, k5, hC, hbm⟩ := T.oex.cls
  obtain ⟨hp, g, dr, tk, os⟩ := s
  have k : ∀ b o, hp.get? b = some o → ((hp.push (PySem.W.kdv_tup us)).push (PySem.HandSPX.excO C hp.objs.size)).get? b = some o := fun b o e => Heap.get?_push_of_some _ (Heap.get?_push_of_some _ e)
  have hget : ((hp.push (PySem.W.kdv_tup us)).push (PySem.HandSPX.excO C hp.objs.size)).get? (hp.objs.size + 1) = some (PySem.HandSPX.excO C hp.objs.size) := by heap_get
  have hnx : K.lookup (hp.objs.size + 1) = none := no_key X (Nat.le_succ _)
  refine PySem.HandSPX.call_own F.excBase_ValueError (fun Y => PySem.HandSPX.refsVE_contains Y bm hbm) (X _ _ hC) (PySem.W.looks_findIn X T.iC) (fun self => PySem.W.bind_fn X self T.tI) (by rw [hl, sizeLine_eq]; omega) ?_
  refine xi_init (s := ⟨(hp.push (PySem.W.kdv_tup us)).push (PySem.HandSPX.excO C hp.objs.size), g, dr, tk, os⟩) T (X.keeps k) (hlim.keeps k) (G.keeps k) hmg (B.keeps k) hmb hget hnx ?_ hl hfs hz fun h' tk' dx t1 M => ?_
  · show A.depth + 1 < recursionLimit
    exact hroom
  · have old : ∀ b o, hp.get? b = some o → h'.get? b = some o := fun b o e => M.keep b o (Nat.ne_of_lt (Nat.lt_succ_of_lt (Heap.lt_size e))) (k b o e)
    have z : hp.objs.size + 1 + 1 ≤ dx := by
      have q := M.dbig
      first
        | (simpa only [Heap.size_push] using q)
        | exact q
        | (rw [Heap.size_push, Heap.size_push] at q; exact q)
    exact ⟨rfl, hq h' tk' (hp.objs.size + 1) dx ⟨old, Nat.le_succ _, ⟨_, _, M.obj, rfl, rfl, rfl, rfl⟩, Nat.le_trans (Nat.le_trans (Nat.le_succ _) (Nat.le_succ _)) z, M.dne, M.ns⟩⟩
end
section
variable {X : Cx} {C fI cda cc : Addr}
/-- C(e, ..) -/
def tMkX (C : Addr) (fs : List Str) (ta : TA) : L2.St → Hp → XK → Prop := fun σ H Q => ta σ H fun vs H1 => vs.length = fs.length ∧ ∀ d, H1 d = none → Q (.ref C) (some d) (upd H1 d (.xd (fs.zip vs)))
theorem zip_paired {fs : List Str} : ∀ {vs : List V} {us : List Value}, Vals vs us → vs.length = fs.length → Paired (fun (p : Str × V) (q : Str × Value) => p.1 = q.1 ∧ RelV p.2 q.2) (fs.zip vs) (fs.zip us) := by
  induction fs with
  | nil => intro vs us r h; rw [List.zip_nil_left, List.zip_nil_left]; exact .nil
  | cons f fs ih =>
    intro vs us r h
    cases r with
    | nil => simp at h
    | cons rv r => exact .cons ⟨rfl, rv⟩ (ih r (by simpa using h))
theorem pmk_x {x : Str} {fs : List Str} {e : Expr} {es : List Expr} {ta : TA} {p pos : Pos} {k : Nat} (T : XTxt X.K X.prog C fs fI cda cc) (hfs : fs ≠ []) (hz : fs.length ≤ 900) (hr : Room k X.A) (ha : PA X (e :: es) ta) (hg : Gl X x) (hm : X.mg x = some (.ref C)) (hsup : X.mg "super" = none)
    (hdb : (x == ("__debug__" : Str)) = false) (he : starEach (e :: es) X.env = (false, eval e X.env) :: starEach es X.env) (hpl : (backTo pos (starEach es X.env)).any (·.1) = false) :
    PMk X (.Call (.Name x p) (e :: es) [] pos) (tMkX C fs ta) := by
  intro pins s σ H Q I h
  refine wpAny_Call_Name_kw (ld_glob I hg hm ?_ hdb)
  refine PySem.W.callWith_K (h₀ := X.base) I.ok.mod.kin T.oex.kC (thn (ha.run pos pins s σ H _ I h) fun us s1 hh => ?_) he hpl
  obtain ⟨vs, H1, I1, r1, hl, q1⟩ := hh
  refine ⟨I1.kIn, ?_⟩
  show wpAny _ _ (call (.ref C) us) _ _ _
  have hlim := I1.nolimit
  obtain ⟨mb, hB, hbt⟩ := I1.mod.blt
  have hG := I1.mod.glob.keeps I1.bk
  have hlu : us.length = fs.length := by rw [← Paired.length r1]; exact hl
  obtain ⟨hp, g, dr, tk, os⟩ := s1
  refine wpAny_call (xi_made T I1.kIn hlim hG hsup (hB.keeps I1.bk) ((hbt "super" (by decide)).trans (by first | rfl | kernel_rfl)) (by have := hr.dp; omega) hlu hfs hz fun h' tk' e d M => ?_)
  show MkP X pins σ Q (.ref e) ⟨h', g, dr, tk', os⟩
  obtain ⟨oe, fv, hoe, hc, hd, hdat, h1⟩ := M.obj
  have hns := M.ns
  obtain ⟨G', g1, g2⟩ := restrict h' fun b => decide (b ≠ e)
  have gk : ∀ b, b ≠ e → G'.get? b = h'.get? b := fun b hb => g1 b (decide_eq_true hb)
  have ge : G'.get? e = none := g2 e (by simp)
  have old : ∀ b o, hp.get? b = some o → G'.get? b = some o := fun b o q => (gk b (Nat.ne_of_lt (Nat.lt_of_lt_of_le (Heap.lt_size q) M.new))).trans (M.keep b o q)
  have rel : ∀ f, RelO ((fs.zip vs).lookup f) (putAll (fs.zip us) (fun _ => none) f) := fun f => by
    have z := relO_putAll (b := []) (m := fun _ => none) (zip_paired r1 hl) (fun _ => trivial) f
    rw [List.append_nil, lookup_rev (by rw [zip_keys _ _ hl]; exact T.nd)] at z
    exact z
  have ob : ObjOk X.prog X.w (upd H1 d (.xd (fs.zip vs))) G' d (.xd (fs.zip vs)) := ⟨_, hns.at (fun o q => (gk d M.dne).trans q), rel⟩
  have J : Inv X pins σ (upd H1 d (.xd (fs.zip vs))) ⟨G', g, dr, tk', os⟩ := I1.laid (t' := tk') old M.dbig ob
  refine ⟨e, oe, fv, ⟨G', g, dr, tk', os⟩, _, .ref C, some d, rfl, J, fun b o q => ?_, ge, hoe, ⟨hc, hd⟩, hdat, h1, ?_, rfl, I1.bare, raises_own T.oex.exC T.oex.tyC, q1 d (I1.hok.fresh M.dbig)⟩
  · by_cases hb : b = e
    · have q' : G'.get? b = some o := q
      rw [hb, ge] at q'; cases q'
    · exact (gk b hb).symm.trans q
  · rw [upd_ne (Ne.symm M.dne)]
    exact I1.hok.fresh M.new
/-! ### raise C(e, ..) -/
def sRaise (ci n : Nat) (l : ML) : MS := fun c t h => (l c t h).toS t fun ds h' => if ds.length = n then .exn ci ds t h' else .stuck
theorem ds_raise {CL : List XC} {W : WX} {c : Calls} {x : Str} {fs : List Str} {ci n : Nat} {e : Expr} {es : List Expr} {l : ML} {p pos pos2 : Pos} {k : Nat} (hc : X.calm = true) (tk : Takes X W) (T : XTxt X.K X.prog C fs fI cda cc) (hCL : CL[ci]? = some ⟨C, fs⟩) (hn : fs.length = n) (hfs : fs ≠ []) (hz : fs.length ≤ 900) (hr : Room k X.A)
    (ha : DA X CL W c (e :: es) l) (hg : Gl X x) (hm : X.mg x = some (.ref C)) (hsup : X.mg "super" = none) (hdb : (x == ("__debug__" : Str)) = false) (he : starEach (e :: es) X.env = (false, eval e X.env) :: starEach es X.env) (hpl : (backTo pos (starEach es X.env)).any (·.1) = false) :
    DS X CL W c (.Raise (some (.Call (.Name x p) (e :: es) [] pos)) none pos2) (sRaise ci n l) :=
  psimp (ps_raise hc tk (pmk_x T hfs hz hr ha hg hm hsup hdb he hpl)) fun E σ H ⟨r, t, h, Y, S, q⟩ => (rs_bind Y S q).mono fun vs H1 ⟨r1, h1, ds, e1, Y1, S1, rv, q1⟩ => by
    by_cases hd : ds.length = n
    · rw [if_pos hd] at q1
      refine ⟨by rw [rv.len, hd, hn], fun d nd => ?_⟩
      have x1 : Ext r1 H1 r1 (upd H1 d (.xd (fs.zip vs))) := Ext.laid nd
      refine q1 (.ref C) (some d) σ r1 _ x1 (Y1.laid nd) (S1.mono x1) ⟨⟨C, fs⟩, vs, hCL, rfl, rv.mono x1, by rw [hd, ← hn], .inl ⟨d, rfl, upd_same, Y1.fresh nd⟩⟩
    · rw [if_neg hd] at q1; exact q1.elim
end
end Ev

/-! Ev13: try .. except, a caught error's field, isinstance of a caught error. -/
namespace Ev
open PySem PySem.Spec PyProof.Rows L2 PySem.Calls
open PySem.W (Frag)

/-! ### isinstance of an error that may bear fields -/
section
open PySem.W
variable {prog : Program} {w : World} {A : Around} {E : Value → Shared → Prop} {s : Shared} {K : Frag} {x D : Addr} {ox : Obj}
theorem findObj_dataX {C : Addr} {od : Option Obj} {name : Str} {a g : Value} (hc : (clsIn K C).isSome = true) (ha : findIn K (.ref C) name = some (some a)) (hg : specialIn K a "__get__" = some (some g)) (ht : takesIn K a = some true) : findObj K C od name = some (.bind g a) := by
  obtain ⟨cd, hc⟩ := Option.isSome_iff_exists.mp hc
  unfold findObj
  rw [hc, Option.bind_some, ha, Option.bind_some]
  simp [hg, ht]
theorem kin_classX {od : Option Obj} {Q : Option Value → Shared → Prop} (T : ExcC K D) (X : K.In s.heap) (I : InstAt s.heap x ox D od) (h : Q (some (.ref D)) { s with toks := s.toks + 1 }) : wpAny (model prog w) A (getAttr? (.ref x) "__class__") Q E s := by
  have hf : findObj K D od "__class__" = some (.bind (.builtin "getset_descriptor.__get__") (.builtin "object.__class__")) := findObj_dataX (by obtain ⟨cd, hc, _⟩ := any_some T.hd; rw [hc]; rfl) T.ha T.hn T.ht
  obtain ⟨hp, g, d, t, os⟩ := s
  have L0 := I.type (M := model prog w)
  have L1 := looks_findIn (M := model prog w) X T.hg
  have L2 := looks_findIn (M := model prog w) X T.hk
  have L3 := looks_find (M := model prog w) X I hf
  have sub : Looks (model prog w) hp (isInstance (.ref x) (.type "BaseException")) true := L0.andThen (looks_subIn X T.hs)
  have hx0 : (false && onTheHeap (Value.builtin "BaseException.__getattribute__")) = false := rfl
  have hx2 : (Value.builtin "BaseException.__getattribute__" == Value.builtin "object.__getattribute__") = false := by decide +kernel
  have hx1 : (onTheHeap (Value.ref D) && Value.builtin "BaseException.__getattribute__" == Value.builtin "object.__getattribute__") = false := by rw [hx2]; rfl
  unfold getAttr? getAttrBy? getAttrBy
  refine wpAny_bind (wpAny_mkText (wpAny_bind (wpAny_attempt (wpAny_holding (wpAny_bind (L0.at (wpAny_bind (L1.at ?_))))))))
  show wpAny _ _ (if (onTheHeap (Value.ref D) && Value.builtin "BaseException.__getattribute__" == Value.builtin "object.__getattribute__") = true then _ else _) _ _ _
  rw [hx1, if_neg Bool.false_ne_true]
  unfold getAttrByItsOwn hookBefore
  refine wpAny_bind ?_
  rw [if_pos (show onTheHeap (Value.ref D) = true from rfl)]
  refine L2.at ?_
  refine wpAny_bind (wpAny_attempt (wpAny_holding ?_))
  unfold callGetattribute
  rw [hx0, if_neg Bool.false_ne_true]
  unfold boundAndCalled
  rw [PySem.F.excAttr_ValueError.ga.bind (.ref x)]
  refine wpAny_bind (wpAny_pure ?_)
  show wpAny _ _ (call (.builtin "BaseException.__getattribute__") [.ref x, .str "__class__" t]) _ _ _
  refine wpAny_call (codeAny_call_builtin PySem.F.excAttr_ValueError.ga.plain PySem.F.entry_bexc_ga ?_)
  refine @check_slot (model prog w) _ _ ⟨hp, g, d, t + 1, os⟩ "BaseException.__getattribute__" "BaseException" "__getattribute__" (.ref x) [.str "__class__" t] [] _ (by decide +kernel) (by decide +kernel) sub (PySem.F.args_bexc_ga (.ref x) (.str "__class__" t)) ?_
  unfold Builtin.«object.__getattribute__»
  refine wpAny_bind (wpAny_of_eq (a := ((Value.ref x : Value), [Value.str "__class__" t])) (by first | rfl | (simp only [slotArgs]; rfl)) ?_)
  refine wpAny_bind (wpAny_pure (wpAny_bind (L0.at (wpAny_bind (L3.at ?_)))))
  show wpAny _ _ (holding [Value.builtin "object.__class__"] (call (.builtin "getset_descriptor.__get__") [.builtin "object.__class__", .ref x, .ref D]) >>= ret) _ _ _
  refine wpAny_bind (wpAny_holding (wpAny_call (class_get (s := ⟨hp, g, d, t + 1, os⟩) (ox := ox) (od := od) X I T.hm ?_)))
  refine wpAny_pure ?_
  show wpAny _ _ (handedOut (.ref D)) _ _ _
  rw [handedOut_of (v := .ref D) rfl]
  first
    | exact wpAny_pure (wpAny_pure h)
    | exact wpAny_pure h
    | exact wpAny_pure (wpAny_bind (wpAny_pure (wpAny_pure h)))
theorem kitx_excX (T : ExcC K D) : KitX K (.ref x) (.ref D) (fun h => ∃ od, InstAt h x ox D od) where
  ty := fun _ _ _ ⟨_, I⟩ => I.type
  it := fun _ _ X _ => by
    obtain ⟨cdD, hcD, _⟩ := any_some T.hd
    unfold clsIn at hcD
    split at hcD
    · rename_i c' d' cd' sl' ho
      intro A' Q' E' s' k q
      unfold isType loadHead
      exact wpAny_bind (wpAny_loadPart (k _ _ (X _ _ ho)) (wpAny_pure q))
    · cases hcD
  ne := fun h tp dd its n sl X htp => by
    obtain ⟨cdD, hcD, _⟩ := any_some T.hd
    refine Bool.eq_false_iff.mpr fun q => ?_
    have e : D = tp := Value.ref.inj (beq_iff_eq.mp q)
    subst e
    unfold clsIn at hcD
    split at hcD
    · rename_i c' d' cd' sl' ho
      have z := (X _ _ ho).symm.trans htp
      cases z
    · cases hcD
  ca := fun X ⟨_, I⟩ k => kin_classX T X I k
end
/-- isinstance(e, c), e the exception that the suite holds, its dict d -/
def rIsX (K : PySem.W.Frag) (D a : Addr) (d : Option Addr) : List V → Hp → VK → Prop := fun xs H Q => ∃ (c : V) (cv : Value) (b : Bool), xs = [.ref a, c] ∧ (∀ u, RelV c u → u = cv) ∧ PySem.W.kitOne K (.ref D) cv = some b ∧ (d = none ∨ ∃ dd fs, d = some dd ∧ H dd = some (.xd fs)) ∧ Q (.bl b) H
theorem call_isX {X : Cx} {a D : Addr} {d : Option Addr} {oe : Obj} {pn : List (Addr × Obj)} (C : ExcC X.K D) (hz : Zc (.ref D) d oe) (hf : ∃ vs, oe.data = .fields vs) : CallR (X.suite a ((a, oe) :: pn)) (.builtin "isinstance") (rIsX X.K D a d) := by
  intro pins s σ H xs us Q I r h
  obtain ⟨c, cv, b, rfl, hcv, e, hd, q⟩ := h
  cases r with
  | cons rx rr =>
    cases rr with
    | cons rt rr =>
      cases rr
      cases rx
      have ec := hcv _ rt
      subst ec
      obtain ⟨hget, _⟩ := I.pin (a, oe) (List.mem_append.mpr (.inl List.mem_cons_self))
      obtain ⟨vs, hv⟩ := hf
      have J : ∃ od, PySem.W.InstAt s.heap a oe D od := by
        obtain ⟨oc, od, oda, osl⟩ := oe
        obtain ⟨h1, h2⟩ := hz
        dsimp only at h1 h2 hv
        subst h1 h2 hv
        rcases hd with hd | ⟨dd, fs, hd, hx⟩
        · subst hd
          exact ⟨none, hget, rfl, rfl, trivial⟩
        · subst hd
          obtain ⟨mA, hns, _⟩ : ObjOk X.prog X.w H s.heap dd (.xd fs) := I.hok dd _ hx
          obtain ⟨o, _, _, ho, _⟩ := hns
          exact ⟨some o, hget, rfl, rfl, ho⟩
      exact PySem.W.kia_one (kitx_excX C) I.kIn J e (fun z => nomatch z) fun tk => ⟨.bl b, H, I.kept (t' := tk) fun _ _ z => z, rfl, q⟩
/-! ### try -/
def SR.noX : SR → SR
  | .exn _ _ _ _ => .stuck
  | x => x
def SR.wipe (i : Nat) : SR → SR
  | .nx t h => .nx (t.set i none) h
  | .bk t h => .bk (t.set i none) h
  | .ct t h => .ct (t.set i none) h
  | x => x
open Classical in
noncomputable def uni (F : Addr → Option Addr → SR) : SR := if ∀ a d, F a d = F 0 none then F 0 none else .stuck
theorem uni_eq {F : Addr → Option Addr → SR} {x : SR} (h : ∀ a d, F a d = x) : uni F = x := by
  unfold uni
  rw [if_pos (fun a d => by rw [h, h])]
  exact h _ _
theorem uni_all {F : Addr → Option Addr → SR} (h : uni F ≠ .stuck) (a : Addr) (d : Option Addr) : uni F = F a d := by
  unfold uni at *
  by_cases q : ∀ a d, F a d = F 0 none
  · rw [if_pos q]; exact (q a d).symm
  · rw [if_neg q] at h; exact (h rfl).elim
def sTry (cs : Nat → Option Bool) (body suite : MS) : MS := fun c t h => match body c t h with
  | .exn k fs t1 h1 => match cs k with
    | some true => (suite c t1 h1).noX
    | some false => .exn k fs t1 h1
    | none => .stuck
  | r => r
noncomputable def sTryAs (cs : Nat → Option Bool) (nmf : Nat → List Str) (i : Nat) (body : MS) (suite : Addr → Option Addr → Nat → MS) : MS := fun c t h => match body c t h with
  | .exn k fs t1 h1 => match cs k with
    | some true => uni fun a dd => ((suite a dd k c (t1.set i (some (.exc a dd (nmf k) fs))) h1).noX).wipe i
    | some false => .exn k fs t1 h1
    | none => .stuck
  | r => r
section
variable {X : Cx} {CL : List XC} {W : WX} {c : Calls}
theorem noX_rd {K : Frag} {r : Rho} {H : Hp} {E : Ends} {x : SR} (q : rdS K CL W r H E x.noX) : rdS K CL W0 r H E x := by
  cases x <;> first | exact q | exact q.elim
theorem wipe_rd {K : Frag} {W : WX} {r : Rho} {H : Hp} {E : Ends} {i : Nat} {x : SR} (q : rdS K CL W0 r H E ((x.noX).wipe i)) :
    rdS K CL W0 r H { nx := fun σ' H' => E.nx (σ'.set i none) H', rt := E.rt, bk := fun σ' H' => E.bk (σ'.set i none) H', ct := fun σ' H' => E.ct (σ'.set i none) H' } x := by
  cases x with
  | nx t h => exact fun σ' r' H' x' Y S => q _ r' H' x' Y (S.none i)
  | bk t h => exact fun σ' r' H' x' Y S => q _ r' H' x' Y (S.none i)
  | ct t h => exact fun σ' r' H' x' Y S => q _ r' H' x' Y (S.none i)
  | rt d h => exact q
  | exn a b c d => exact q.elim
  | stuck => exact q
theorem ds_try {x : Str} {v : Value} {cs : Nat → Option Bool} {body suite : List Stmt} {b₀ : Stmt} {mb ms : MS} {np pos pos' : Pos} (hs : X.stack = X.env :: X.outer) (hf : X.env.frame = some X.env.locals) (hc : Names X x v) (tk : Takes X W)
    (hcs : ∀ k y b, CL[k]? = some y → cs k = some b → PySem.W.exmOne X.K (.ref y.addr) v = some b)
    (hb : ∀ (W : WX) (pn : List (Addr × Obj)) (xe : Value → Shared → Prop), Takes (X.tr pn xe) W → PassesOwn (model X.prog X.w) X.A X.env xe → DSs (X.tr pn xe) CL W c body mb)
    (hsu : ∀ (a : Addr) (oe : Obj) (pn : List (Addr × Obj)), DSs (X.suite a ((a, oe) :: pn)) CL W0 c (b₀ :: suite) ms) :
    DS X CL W c (.Try body [.ExceptHandler (some (.Name x np)) none (b₀ :: suite) pos'] [] [] pos) (sTry cs mb ms) :=
  psimp (ps_try_only (tb := fun W => rs X.K CL W c mb) (ts := fun _ _ _ => rs X.K CL W0 c ms) (Wout := W) hs hf hc tk hb (fun a oe cls d pn _ _ => hsu a oe pn)) fun E σ H ⟨r, t, h, Y, S, q⟩ => ⟨r, t, h, Y, S, by
    unfold sTry at q
    cases e : mb c t h with
    | nx t h => rw [e] at q; exact q
    | rt d h => rw [e] at q; exact q
    | bk t h => rw [e] at q; exact q
    | ct t h => rw [e] at q; exact q
    | stuck => rw [e] at q; exact q
    | exn k fs t1 h1 =>
      rw [e] at q
      intro cls dd σ' r' H' x' Y' S' ex
      obtain ⟨y, vs, hy, hcls, ra, hl, hd⟩ := id ex
      cases hk : cs k with
      | none => simp only [hk] at q; exact q.elim
      | some b =>
        refine ⟨b, by rw [hcls]; exact hcs k y b hy hk, fun hb a _ => ?_, fun hb => ?_⟩
        · subst hb
          simp only [hk] at q
          exact ⟨r', t1, h1, Y', S', noX_rd (q.ext x')⟩
        · subst hb
          simp only [hk] at q
          exact q cls dd σ' r' H' x' Y' S' ex⟩
theorem ds_tryAs {x n : Str} {v : Value} {i : Nat} {cs : Nat → Option Bool} {nmf : Nat → List Str} {body suite : List Stmt} {b₀ : Stmt} {mb : MS} {ms : Addr → Option Addr → Nat → MS} {np pos pos' : Pos} (hs : X.stack = X.env :: X.outer) (hf : X.env.frame = some X.env.locals) (hN : X.N.Nodup) (hi : X.N[i]? = some n) (hln : X.env.kindOf n = some .local)
    (hc : Names X x v) (tk : Takes X W) (hcs : ∀ k y b, CL[k]? = some y → cs k = some b → PySem.W.exmOne X.K (.ref y.addr) v = some b) (hnm : ∀ k y, CL[k]? = some y → nmf k = y.fields)
    (hb : ∀ (W : WX) (pn : List (Addr × Obj)) (xe : Value → Shared → Prop), Takes (X.tr pn xe) W → PassesOwn (model X.prog X.w) X.A X.env xe → DSs (X.tr pn xe) CL W c body mb)
    (hsu : ∀ (a : Addr) (oe : Obj) (d : Option Addr) (pn : List (Addr × Obj)) (k : Nat) (y : XC), CL[k]? = some y → cs k = some true → Zc (.ref y.addr) d oe → (∃ vs, oe.data = .fields vs) → DSs (X.suite a ((a, oe) :: pn)) CL W0 c (b₀ :: suite) (ms a d k)) :
    DS X CL W c (.Try body [.ExceptHandler (some (.Name x np)) (some n) (b₀ :: suite) pos'] [] [] pos) (sTryAs cs nmf i mb ms) :=
  psimp (ps_try_as (i := i) (tb := fun W => rs X.K CL W c mb) (ts := fun a cls d E σ H => ∃ k y, CL[k]? = some y ∧ cs k = some true ∧ cls = .ref y.addr ∧ rs X.K CL W0 c (ms a d k) E σ H) (Wout := W) hs hf hN hi hln hc tk hb
    (fun a oe cls d pn hz hfd => ⟨fun pins s σ H D I ⟨k, y, hy, hk, hcl, q⟩ => (hsu a oe d pn k y hy hk (by rw [← hcl]; exact hz) hfd).run pins s σ H D I q⟩)) fun E σ H ⟨r, t, h, Y, S, q⟩ => ⟨r, t, h, Y, S, by
    unfold sTryAs at q
    cases e : mb c t h with
    | nx t h => rw [e] at q; exact q
    | rt d h => rw [e] at q; exact q
    | bk t h => rw [e] at q; exact q
    | ct t h => rw [e] at q; exact q
    | stuck => rw [e] at q; exact q
    | exn k fs t1 h1 =>
      rw [e] at q
      intro cls dd σ' r' H' x' Y' S' ex
      obtain ⟨y, vs, hy, hcls, ra, hl, hd⟩ := id ex
      cases hk : cs k with
      | none => simp only [hk] at q; exact q.elim
      | some b =>
        refine ⟨b, by rw [hcls]; exact hcs k y b hy hk, fun hb a _ => ?_, fun hb => ?_⟩
        · subst hb
          simp only [hk] at q
          have hnm' := hnm k y hy
          have rx : Rep X.K H' r' (.ref a) (.exc a dd (nmf k) fs) := by
            refine .exc (vs := vs) ?_ (fun z => ?_) (by rw [hnm', ra.len, hl]) ra
            · rw [hnm']
              exact hd.imp id (fun z => z.1)
            · rcases hd with ⟨d, e, _⟩ | ⟨_, e⟩
              · rw [z] at e; cases e
              · exact e
          refine ⟨k, y, hy, hk, hcls, r', _, h1, Y', S'.set i rx, wipe_rd (W := W) ?_⟩
          have nst : uni (fun a dd => ((ms a dd k c (t1.set i (some (.exc a dd (nmf k) fs))) h1).noX).wipe i) ≠ .stuck := fun z => by rw [z] at q; exact q
          rw [uni_all nst a dd] at q
          have q2 := rdS.ext x' q
          cases e2 : ms a dd k c (t1.set i (some (.exc a dd (nmf k) fs))) h1 with
          | exn _ _ _ _ => rw [e2] at q2; exact q2.elim
          | stuck => rw [e2] at q2; exact q2
          | nx _ _ => rw [e2] at q2; exact q2
          | rt _ _ => rw [e2] at q2; exact q2
          | bk _ _ => rw [e2] at q2; exact q2
          | ct _ _ => rw [e2] at q2; exact q2
        · subst hb
          simp only [hk] at q
          exact q cls dd σ' r' H' x' Y' S' ex⟩
end
/-! ### the caught error's field, isinstance -/
def dFld (a : Addr) (dd : Option Addr) (nm : List Str) (f : Str) (x : D) (h : Hd) : Res D := match x with
  | .exc a' dd' nm' fs => if a' = a ∧ dd' = dd ∧ nm' = nm then (match (nm.zip fs).lookup f with
    | some d => .ok d h
    | none => .stuck) else .stuck
  | _ => .stuck
def dIsX (a : Addr) (dd : Option Addr) (b : Bool) (x : D) (h : Hd) : Res D := match x with
  | .exc a' dd' _ _ => if a' = a ∧ dd' = dd then .ok (.bl b) h else .stuck
  | _ => .stuck
section
variable {X : Cx} {CL : List XC} {W : WX} {c : Calls}
theorem zip_look {K : Frag} {H : Hp} {r : Rho} {f : Str} {d : D} : ∀ {nm : List Str} {vs : List V} {ds : List D}, RepA K H r vs ds → (nm.zip ds).lookup f = some d → ∃ v, (nm.zip vs).lookup f = some v ∧ Rep K H r v d
  | [], _, _, _, h => by simp at h
  | _ :: _, _, _, .nil, h => by simp at h
  | g :: nm, _, _, .cons q k, h => by
    rw [List.zip_cons_cons, List.lookup_cons] at h ⊢
    split at h
    · rename_i e
      cases h
      exact ⟨_, rfl, q⟩
    · exact zip_look k h
theorem de_fld {a C : Addr} {oe : Obj} {d : Option Addr} {pn : List (Addr × Obj)} {nm : List Str} {f : Str} {e : Expr} {m : M} {pos : Pos} (T : XfC X.K C) (hno : f ∈ nm → PySem.W.findIn X.K (.ref C) f = some none) (hz : Zc (.ref C) d oe) (hf : ∃ vs, oe.data = .fields vs)
    (he : DE (X.suite a ((a, oe) :: pn)) CL W c e m) (hm : f ∈ nm) (hb : attributeBase e f X.env (eval e X.env) = eval e X.env) : DE (X.suite a ((a, oe) :: pn)) CL W c (.Attribute e f pos) (mUn (dFld a d nm f) m) :=
  pimp (pe_xf (cls := .ref C) T (hno hm) hz hf he hb) fun σ H Q ⟨r, t, h, Y, S, q⟩ => (rd_bind Y S q).mono fun v H1 ⟨r1, h1, x, e1, Y1, S1, rv, q1⟩ => by
    unfold dFld at q1
    split at q1
    · rename_i a' dd' nm' fs
      split at q1
      · rename_i hc
        obtain ⟨rfl, rfl, rfl⟩ := hc
        split at q1
        · rename_i y ey
          cases rv with
          | exc hd hz0 hl ra =>
            obtain ⟨v', e2, rv'⟩ := zip_look ra ey
            rcases hd with ⟨d', rfl, hx, _⟩ | rfl
            · exact ⟨rfl, rfl, d', _, v', rfl, hx, e2, q1.now Y1 rv'⟩
            · rw [hz0 rfl] at ey
              simp at ey
        · exact q1.elim
      · exact q1.elim
    · exact q1.elim
theorem de_isX {a C : Addr} {oe : Obj} {d : Option Addr} {pn : List (Addr × Obj)} {cx : V} {cv : Value} {b : Bool} {e1 e2 : Expr} {m : M} {p pos : Pos} {x : Str} (T : ExcC X.K C) (hz : Zc (.ref C) d oe) (hf : ∃ vs, oe.data = .fields vs) (hg : Gl X x) (hm : X.mg x = none) (hv : bootBuiltins x = some (.builtin "isinstance")) (hn : x ≠ "__name__") (hdb : (x == ("__debug__" : Str)) = false)
    (he : DE (X.suite a ((a, oe) :: pn)) CL W c e1 m) (h2 : PE (X.suite a ((a, oe) :: pn)) e2 (tC cx)) (hcx : ∀ u, RelV cx u → u = cv) (hk : PySem.W.kitOne X.K (.ref C) cv = some b)
    (hs : starEach [e1, e2] X.env = (false, eval e1 X.env) :: starEach [e2] X.env) (hs2 : starEach [e2] X.env = [(false, eval e2 X.env)]) (hpl : (backTo pos (starEach [e2] X.env)).any (·.1) = false) : DE (X.suite a ((a, oe) :: pn)) CL W c (.Call (.Name x p) [e1, e2] [] pos) (mUn (dIsX a d b) m) :=
  pimp (pe_callB (X := X.suite a ((a, oe) :: pn)) (call_isX T hz hf) hg hm hv (pa_cons he (pa_cons h2 pa_nil hs2) hs) hn hdb hs hpl) fun σ H Q ⟨r, t, h, Y, S, q⟩ => (rd_bind Y S q).mono fun v H1 ⟨r1, h1, y, e1, Y1, S1, rv, q1⟩ => by
    unfold dIsX at q1
    split at q1
    · split at q1
      · rename_i hc
        obtain ⟨rfl, rfl⟩ := hc
        cases rv with
        | exc hd _ hl ra => exact ⟨cx, cv, b, rfl, hcx, hk, hd.elim (fun ⟨d', e, hx, _⟩ => .inr ⟨d', _, e, hx⟩) .inl, q1.now Y1 (.bl _)⟩
      · exact q1.elim
    · exact q1.elim
end
end Ev

/-! Ev14: functions: the table, calls, the promise. -/
namespace Ev
open PySem PySem.Spec PyProof.Rows L2 PySem.Calls
open PySem.W (Frag)

structure FnD where
  np : Nat
  nn : Nat
  body : MS
open Classical in
noncomputable def fin1 (h : Hd) (d : D) (h' : Hd) : Res D := if d.lo h.length ∧ Clean h h' then .ok d (h'.take h.length) else .ok d h'
open Classical in
noncomputable def finX (h : Hd) (k : Nat) (fs : List D) (h' : Hd) : Res D := if D.loA h.length fs ∧ Clean h h' then .exn k fs (h'.take h.length) else .exn k fs h'
noncomputable def fin (h : Hd) : SR → Res D
  | .rt d h' => fin1 h d h'
  | .nx _ h' => fin1 h .non h'
  | .exn k fs _ h' => finX h k fs h'
  | _ => .stuck
noncomputable def runFn (F : FnD) (c : Calls) (ds : List D) (h : Hd) : Res D :=
  if ds.length = F.np then fin h (F.body c (ds.map some ++ List.replicate (F.nn - F.np) none) h) else .stuck
noncomputable def callN (T : List FnD) : Nat → Calls
  | 0 => fun _ _ _ => .stuck
  | n + 1 => fun i ds h => match T[i]? with
    | some F => runFn F (callN T n) ds h
    | none => .stuck
def rdC (K : Frag) (CL : List XC) (r : Rho) (H : Hp) (Q : VK) (E : XK) : Res D → Prop
  | .ok d h' => ∀ v r' H', Ext r H r' H' → R K r' h' H' → Rep K H' r' v d → Q v H'
  | .exn c fs h' => ∀ cls dd r' H', Ext r H r' H' → R K r' h' H' → ExR K CL H' r' c fs cls dd → E cls dd H'
  | .stuck => False
def spC (K : Frag) (CL : List XC) (g : List D → Hd → Res D) (n : Nat) : Sp := fun vs H Q E => vs.length = n ∧ ∃ r ds h, R K r h H ∧ RepA K H r vs ds ∧ rdC K CL r H Q E (g ds h)

theorem ExR.cut {K : Frag} {CL : List XC} {H : Hp} {r : Rho} {n k : Nat} {fs : List D} {cls : Value} {dd : Option Addr} (x : ExR K CL H r k fs cls dd) (b : D.loA n fs) : ExR K CL H (r.cut n) k fs cls dd := by
  obtain ⟨y, vs, h1, h2, h3, h4, h5⟩ := x
  exact ⟨y, vs, h1, h2, h3.cut b, h4, h5.imp (fun ⟨d, e, q, m⟩ => ⟨d, e, q, fun z => m (mem_take z)⟩) id⟩
section
variable {P : Program} {w : World} {K : Frag} {mg : Str → Option Value} {base : Heap} {CL : List XC}
/-- a def of the table, as its callers see it -/
def CalleeOk (P : Program) (w : World) (K : Frag) (mg : Str → Option Value) (base : Heap) (CL : List XC) (k : Nat) (g : List D → Hd → Res D) (x : Str) (ps : List Str) : Prop :=
  ∃ f fd, FnOk P w K mg base (L2.CX P w) k f fd ps (spC K CL g ps.length) ∧ mg x = some (.ref f) ∧ PySem.W.keepIn K (.ref f) = true ∧ Binds K fd ps [] ∧ ∀ ds h, ds.length ≠ ps.length → g ds h = .stuck
theorem start_slots {H : Hp} {r : Rho} {N : List Str} {vs : List V} {ds : List D} {np : Nat} (ra : RepA K H r vs ds) (hl : vs.length = np) : Slots K H r (L2.start N vs) (ds.map some ++ List.replicate (N.length - np) none) := by
  have hd := ra.len
  refine ⟨by unfold L2.start; simp; omega, fun i d e => ?_⟩
  by_cases hi : i < ds.length
  · rw [List.getElem?_append_left (by simpa using hi), List.getElem?_map] at e
    cases e1 : ds[i]? with
    | none => rw [e1] at e; cases e
    | some d' =>
      rw [e1] at e
      cases e
      obtain ⟨v, e2, rv⟩ := ra.get' e1
      refine ⟨v, ?_, rv⟩
      unfold L2.start
      rw [List.getElem?_append_left (by simp; omega), List.getElem?_map, e2]
      rfl
  · rw [List.getElem?_append_right (by simp; omega), List.getElem?_replicate] at e
    split at e <;> cases e
theorem fn_ok {x q : Str} {st : Stmt} {f : Addr} {fd : FuncData} {N ps : List Str} {F : FnD} {c : Calls} {k : Nat} (Fn : Fun K x q st f fd) (S : FnScope N ps (defScope st)) (hn : F.nn = N.length) (hp : F.np = ps.length)
    (hbody : ∀ (cdv : Value) (A : Around) (outer : List Env) (s : Shared) (H : Hp) (E : XK), Room k (A.deeper (envOfC q (defScope st) s.heap.objs.size f cdv)) →
      DSs (cxOf (L2.CX P w) P w K mg base N q (defScope st) f cdv A outer s H E) CL (fun cls d _ H => E cls d H) c (defBody st) F.body) :
    FnOk P w K mg base (L2.CX P w) (k + 1) f fd ps (spC K CL (runFn F c) ps.length) := by
  refine Fn.okX S (fun vs H Q E h => h.1) (fun cdv A outer s H vs Q E hr h => ⟨rs K CL (fun cls d _ H => E cls d H) c F.body, hbody cdv A outer s H E hr, ?_⟩)
  obtain ⟨hl, r, ds, h, Y, ra, q⟩ := h
  have hd := ra.len
  refine ⟨r, ds.map some ++ List.replicate (N.length - ps.length) none, h, Y, start_slots ra hl, ?_⟩
  unfold runFn at q
  rw [if_pos (by rw [hp, ← hl, hd]), hn, hp] at q
  have done : ∀ {d : D} {h' : Hd}, rdC K CL r H Q E (fin1 h d h') → ∀ v r' H', Ext r H r' H' → R K r' h' H' → Rep K H' r' v d → Q v H' := fun {d h'} q v r' H' x' Y' rv => by
    unfold fin1 at q
    by_cases hc : d.lo h.length ∧ Clean h h'
    · rw [if_pos hc] at q
      exact q v _ H' (x'.cut (Nat.le_of_eq Y.len)) (Y.cut Y' hc.2) (rv.cut hc.1)
    · rw [if_neg hc] at q
      exact q v r' H' x' Y' rv
  cases e : F.body c (ds.map some ++ List.replicate (N.length - ps.length) none) h with
  | rt d h' => rw [e] at q; exact done q
  | nx t h' => rw [e] at q; exact fun σ' r' H' x' Y' S' => done (d := .non) q .non r' H' x' Y' .non
  | bk t h => rw [e] at q; exact q.elim
  | ct t h => rw [e] at q; exact q.elim
  | stuck => rw [e] at q; exact q.elim
  | exn j fs t h' =>
    rw [e] at q
    intro cls dd σ' r' H' x' Y' S' ex
    have q : rdC K CL r H Q E (finX h j fs h') := q
    unfold finX at q
    by_cases hc : D.loA h.length fs ∧ Clean h h'
    · rw [if_pos hc] at q
      exact q cls dd _ H' (x'.cut (Nat.le_of_eq Y.len)) (Y.cut Y' hc.2) (ex.cut hc.1)
    · rw [if_neg hc] at q
      exact q cls dd r' H' x' Y' ex
/-- the table: names, parameters, bodies -/
abbrev Tab := List (Str × List Str × FnD)
def AllOk (P : Program) (w : World) (K : Frag) (mg : Str → Option Value) (base : Heap) (CL : List XC) (T : Tab) (k : Nat) (c : Calls) : Prop := ∀ j e, T[j]? = some e → CalleeOk P w K mg base CL k (c j) e.1 e.2.1
/-- a row of the table stands in the text -/
def RowOk (P : Program) (w : World) (K : Frag) (mg : Str → Option Value) (base : Heap) (CL : List XC) (T : Tab) (B : Nat) (e : Str × List Str × FnD) : Prop :=
  ∃ f fd st N, Fun K e.1 e.1 st f fd ∧ mg e.1 = some (.ref f) ∧ Binds K fd e.2.1 [] ∧ FnScope N e.2.1 (defScope st) ∧ e.2.2.nn = N.length ∧ e.2.2.np = e.2.1.length ∧
    ∀ (c : Calls) (k : Nat), B ≤ k → AllOk P w K mg base CL T k c → ∀ (cdv : Value) (A : Around) (outer : List Env) (s : Shared) (H : Hp) (E : XK), Room k (A.deeper (envOfC e.1 (defScope st) s.heap.objs.size f cdv)) →
      DSs (cxOf (L2.CX P w) P w K mg base N e.1 (defScope st) f cdv A outer s H E) CL (fun cls d _ H => E cls d H) c (defBody st) e.2.2.body
theorem all_ok {T : Tab} {B : Nat} (h : ∀ e ∈ T, RowOk P w K mg base CL T B e) : ∀ n, AllOk P w K mg base CL T (B + n) (callN (T.map (·.2.2)) n)
  | 0 => fun j e hj => by
    obtain ⟨f, fd, st, N, Fn, hm, hb, S, h1, h2, hbody⟩ := h e (List.mem_of_getElem? hj)
    exact ⟨f, fd, ⟨fun vs H Q E h => h.1, fun A outer s H args us vs Q E _ _ _ _ hs => by obtain ⟨_, r, ds, h, _, _, q⟩ := hs; exact q.elim⟩, hm, Fn.kp, hb, fun _ _ _ => rfl⟩
  | n + 1 => fun j e hj => by
    obtain ⟨f, fd, st, N, Fn, hm, hb, S, h1, h2, hbody⟩ := h e (List.mem_of_getElem? hj)
    have ih := all_ok h n
    have e1 : callN (T.map (·.2.2)) (n + 1) j = runFn e.2.2 (callN (T.map (·.2.2)) n) := by
      funext ds h
      show (match (T.map (·.2.2))[j]? with | some F => _ | none => _) = _
      rw [List.getElem?_map, hj]
      rfl
    rw [e1]
    refine ⟨f, fd, ?_, hm, Fn.kp, hb, fun ds h hl => by unfold runFn; rw [if_neg (by rw [h2]; exact hl)]⟩
    exact fn_ok Fn S h1 h2 fun cdv A outer s H E hr => hbody _ _ (Nat.le_add_right _ _) ih cdv A outer s H E hr
end
section
variable {X : Cx} {CL : List XC} {W : WX} {c : Calls}
theorem de_call {x : Str} {ps : List Str} {j k : Nat} {e : Expr} {es : List Expr} {l : ML} {p pos : Pos} (C : CalleeOk X.prog X.w X.K X.mg X.base CL k (c j) x ps) (hr : Room k X.A) (hg : Gl X x) (tk : Takes X W) (ha : DA X CL W c (e :: es) l)
    (hdb : (x == ("__debug__" : Str)) = false) (he : starEach (e :: es) X.env = (false, eval e X.env) :: starEach es X.env) (hpl : (backTo pos (starEach es X.env)).any (·.1) = false) : DE X CL W c (.Call (.Name x p) (e :: es) [] pos) (mCall j l) := by
  obtain ⟨f, fd, F, hm, hk, hb, hlen⟩ := C
  refine pimp (pe_callS F hr hg hm hk hb (fun σ => passAt tk σ) ha hdb he hpl) fun σ H Q ⟨r, t, h, Y, S, q⟩ => (rd_bind Y S q).mono fun vs H1 ⟨r1, h1, ds, e1, Y1, S1, rv, q1⟩ => ?_
  by_cases hd : ds.length = ps.length
  · refine ⟨by rw [rv.len]; exact hd, r1, ds, h1, Y1, rv, ?_⟩
    cases e2 : c j ds h1 with
    | ok d h' => rw [e2] at q1; exact q1
    | exn k fs h' => rw [e2] at q1; exact q1
    | stuck => rw [e2] at q1; exact q1
  · rw [hlen ds h1 hd] at q1
    exact q1.elim
end
end Ev

/-! Ev15: [::-1], list(reversed(..)), str of an int, o[i] = e. -/
namespace HT
open PySem PySem.Spec PyProof.Rows
section
variable {prog : Program} {w : World} {A : Around} {E : Value → Shared → Prop} {s : Shared}
theorem adjust_rev (n : Nat) : Builtin.Slice.sliceAdjust none none (-1) (n : Int) = ((n : Int) - 1, -1) := rfl
theorem places_rev (n : Nat) : Builtin.Slice.slicePlaces ((n : Int) - 1) (-1) (-1) = n := by
  unfold Builtin.Slice.slicePlaces
  have h1 : ¬ ((-1 : Int) > 0) := by omega
  simp only [h1, if_false]
  split <;> first | omega | (simp <;> omega)
theorem sliceApplied_rev {sl : Addr} {vl vu vs : Value} {n : Nat} {Q : Int × Int × Nat → Shared → Prop} (hs : s.heap.IsSliceOf sl vl vu vs) (pl : IsPart vl none) (pu : IsPart vu none) (ps : IsPart vs (some (-1)))
    (h : Q ((n : Int) - 1, -1, n) s) : wpAny (model prog w) A (Builtin.Slice.sliceApplied (.ref sl) (pure (n : Int))) Q E s := by
  obtain ⟨os, hos, hcs, hds⟩ := id hs
  unfold Builtin.Slice.sliceApplied Builtin.Slice.sliceFields
  refine wpAny_bind (wpAny_bind (wpAny_field hos hds (x := vl) rfl (wpAny_bind (wpAny_field hos hds (x := vu) rfl (wpAny_bind (wpAny_field hos hds (x := vs) rfl (wpAny_pure ?_)))))))
  refine wpAny_bind (slicePart_ ps ?_)
  show wpAny _ _ (if ((-1 : Int) == 0) = true then _ else _) _ _ s
  rw [if_neg (by decide)]
  refine wpAny_bind (slicePart_ pl (wpAny_bind (slicePart_ pu (wpAny_bind (wpAny_pure ?_)))))
  show wpAny _ _ (match Builtin.Slice.sliceAdjust none none (-1) (n : Int) with | (lo, hi) => pure (lo, (-1 : Int), Builtin.Slice.slicePlaces lo hi (-1))) _ _ s
  rw [adjust_rev n]
  show wpAny _ _ (pure (((n : Int) - 1), (-1 : Int), Builtin.Slice.slicePlaces ((n : Int) - 1) (-1) (-1))) _ _ s
  rw [places_rev]
  exact wpAny_pure h
theorem pick_rev (xs : Array Value) : ((List.range xs.size).filterMap fun (m : Nat) => xs[(((xs.size : Int) - 1) + (m : Int) * (-1)).toNat]?).toArray = xs.toList.reverse.toArray := by
  have e : (List.range xs.size).filterMap (fun (m : Nat) => xs[(((xs.size : Int) - 1) + (m : Int) * (-1)).toNat]?) = ((List.range xs.size).map (fun k => xs.size - 1 - k)).filterMap (xs[·]?) := by
    rw [List.filterMap_map]
    congr 1
    funext m
    show xs[(((xs.size : Int) - 1) + (m : Int) * (-1)).toNat]? = xs[xs.size - 1 - m]?
    have : (((xs.size : Int) - 1) + (m : Int) * (-1)).toNat = xs.size - 1 - m := by omega
    rw [this]
  rw [e, PySem.W.krv_range, List.filterMap_reverse, PySem.W.krv_all]
theorem getItem_tuple_rev {t sl : Addr} {items : Array Value} {vl vu vs : Value} {Q : Value → Shared → Prop} (ht : IsTup s.heap t items) (hs : s.heap.IsSliceOf sl vl vu vs) (pl : IsPart vl none) (pu : IsPart vu none) (ps : IsPart vs (some (-1)))
    (h : Q (.ref s.heap.objs.size) { s with heap := s.heap.push { cls := .type "tuple", data := .seq items.toList.reverse.toArray } }) (hsz : items.size ≤ sizeLine) : wpAny (model prog w) A (getItem (.ref t) (.ref sl)) Q E s := by
  have htake : sizeOk (.seq items.toList.reverse.toArray) := by
    show items.toList.reverse.toArray.size ≤ sizeLine
    rw [List.size_toArray, List.length_reverse, Array.length_toList]
    omega
  obtain ⟨os, hos, hcs, hds⟩ := id hs
  have hTs : s.TypeIs (.ref sl) "slice" := ⟨os, hos, hcs⟩
  unfold getItem
  try with_reducible refine wpAny_holding ?_
  first | refine wpAny_bind (wpAny_pure ?_) | skip
  refine wpAny_bind (wpAny_sequenceKey ht.typeIs (by decide) ?_)
  refine wpAny_bind (wpAny_callSpecial?_slot (name := Str.ofString "__getitem__") ht.typeIs PyProof.Rows.slot_tuple_getitem
    (wpAny_call_entry PyProof.Rows.slot_tuple_getitem ht.typeIs entry_tuple_getitem ?_ (args_tuple_getitem _ _)))
  show wpAny _ _ (Builtin.Tuple.tupleItemsOf (.ref t) >>= _) _ _ s
  refine wpAny_bind (tupleItemsOf_ ht ?_)
  refine wpAny_bind (wpAny_typeOf hTs ?_)
  rw [if_pos (by decide)]
  refine wpAny_bind (sliceApplied_rev hs pl pu ps ?_)
  have hno : ¬ ((((items.size : Int) - 1) == 0 && (-1 : Int) == 1 && items.size == items.size) = true) := by
    rw [show ((-1 : Int) == 1) = false from by decide, Bool.and_false, Bool.false_and]
    exact Bool.false_ne_true
  show wpAny _ _ (if (((items.size : Int) - 1) == 0 && (-1 : Int) == 1 && items.size == items.size) = true then _ else _) _ _ s
  rw [if_neg hno, pick_rev]
  first
    | exact wpAny_bind (m := Builtin.Tuple.tupleExact _) (wpAny_newObj_type (wpAny_pure ⟨_, rfl, wpAny_pure h⟩) htake)
    | exact wpAny_bind (m := Builtin.Tuple.tupleExact _) (wpAny_newObj_type (wpAny_bind (wpAny_pure (wpAny_pure ⟨_, rfl, wpAny_pure h⟩))) htake)
    | exact wpAny_bind (wpAny_bind (m := Builtin.Tuple.tupleExact _) (wpAny_newObj_type (wpAny_pure (wpAny_pure ⟨_, rfl, wpAny_pure h⟩)) htake))
    | exact wpAny_bind (wpAny_bind (m := Builtin.Tuple.tupleExact _) (wpAny_newObj_type (wpAny_pure ⟨_, rfl, wpAny_pure h⟩) htake))
end
end HT
namespace Ev
open PySem PySem.Spec PyProof.Rows L2 PySem.Calls
/-! ### [::-1] -/
def dRevd (m : Bool) (x : D) (h : Hd) : Res D :=
  match x.see h with
  | .lst xs => fresh m xs.reverse h
  | .scr xs => fresh m xs.reverse h
  | .tup xs => .ok (.tup xs.reverse) h
  | _ => .stuck
section
variable {X : Cx} {CL : List XC} {W : WX} {c : Calls}
/-- any sequence backwards: the reading -/
def tRevA (K : PySem.W.Frag) (te : TE) : TE := fun σ H Q => te σ H fun x H1 => (∃ a xs, x = .ref a ∧ SqL K H1 a xs ∧ ∀ p, H1 p = none → Q (.ref p) (upd H1 p (.lst xs.reverse))) ∨ ∃ a xs, x = .ref a ∧ SqT K H1 a xs ∧ ∀ p o, H1 p = none → PlainT o → Q (.ref p) (upd H1 p (.frz o (.tup xs.reverse)))
theorem pe_revA {e : Expr} {te : TE} {k : Nat} {p1 p2 p3 pos : Pos} (he : PE X e te) : PE X (.Subscript e (.Slice none none (some (.UnaryOp .USub (.Constant (.int 1) k p1) p2)) p3) pos) (tRevA X.K te) := by
  refine ⟨fun pins s σ H Q I h => ?_⟩
  refine Subscript_ (thn (he.run pins s σ H _ I h) fun v s1 ⟨x, H1, I1, r1, q1⟩ => ?_)
  have hst : PO X (some (.UnaryOp .USub (.Constant (.int 1) k p1) p2)) (tPart (tUn (rU fun i => .int (-i)) (tC (.int 1)))) := po_some (pe_un un_neg pe_int)
  refine wpAny_Slice (thn (po_none.run pins s1 σ H1 (fun o H2 => o = none ∧ H2 = H1) I1 ⟨rfl, rfl⟩) fun vl s2 ⟨l, H2, I2, pl, el, e2⟩ => ?_)
  subst el e2
  refine thn (po_none.run pins s2 σ H2 (fun o H3 => o = none ∧ H3 = H2) I2 ⟨rfl, rfl⟩) fun vu s3 ⟨u, H3, I3, pu, eu, e3⟩ => ?_
  subst eu e3
  refine thn (hst.run pins s3 σ H3 (fun o H4 => o = some (-1) ∧ H4 = H3) I3 ⟨1, rfl, -1, rfl, rfl, rfl⟩) fun vs s4 ⟨o, H4, I4, ps, eo, e4⟩ => ?_
  subst eo e4
  have I5 : Inv X pins σ H4 { s4 with heap := s4.heap.push { cls := .type "slice", data := .fields #[vl, vu, vs] } } := I4.kept (t' := s4.toks) fun b ob q => Heap.get?_push_of_some _ q
  rcases q1 with ⟨a, xs, rfl, hx, q⟩ | ⟨a, xs, rfl, hx, q⟩
  · cases r1
    obtain ⟨its, r, ht, hz⟩ := I5.list hx
    have hlen := r.length
    show wpAny (model X.prog X.w) X.A (subscriptTail e (.Slice none none (some (.UnaryOp .USub (.Constant (.int 1) k p1) p2)) p3) (.ref a) (.ref s4.heap.objs.size)) (EP X pins σ Q) X.xe { s4 with heap := s4.heap.push { cls := .type "slice", data := .fields #[vl, vu, vs] } }
    refine tail_any (ops := [.ref a, .ref s4.heap.objs.size]) ht.isList.typeIs (PySem.slot_list_getitem.lookup) ?_ (by with_unfolding_all rfl)
    refine wpAny_getItem_list_slice ht.isList (Heap.IsSliceOf.new _ vl vu vs) pl pu ps (by decide) ?_ (by rw [List.size_toArray]; omega)
    rw [PySem.W.krv_pick]
    refine ⟨.ref _, _, I5.laid (t' := s4.toks) (o := .lst xs.reverse) (fun b ob q => Heap.get?_push_of_some _ q) (Nat.le_refl _) ?_, rfl, q _ (I5.hok.fresh (Nat.le_refl _))⟩
    exact ⟨by rw [List.length_reverse]; exact hz, _, 0, r.reverse, Heap.get?_push_size _ rfl⟩
  · cases r1
    obtain ⟨its, r, ht, hz⟩ := I5.tuple hx
    have hlen := r.length
    show wpAny (model X.prog X.w) X.A (subscriptTail e (.Slice none none (some (.UnaryOp .USub (.Constant (.int 1) k p1) p2)) p3) (.ref a) (.ref s4.heap.objs.size)) (EP X pins σ Q) X.xe { s4 with heap := s4.heap.push { cls := .type "slice", data := .fields #[vl, vu, vs] } }
    refine tail_any (ops := [.ref a, .ref s4.heap.objs.size]) ht.typeIs (PyProof.Rows.slot_tuple_getitem.lookup) ?_ (by with_unfolding_all rfl)
    refine HT.getItem_tuple_rev ht (Heap.IsSliceOf.new _ vl vu vs) pl pu ps ?_ (by rw [List.size_toArray]; omega)
    exact ⟨.ref _, _, tup_laid (t' := s4.toks) I5 r.reverse (by rw [List.length_reverse]; exact hz), rfl, q _ _ (I5.hok.fresh (Nat.le_refl _)) ⟨_, _, rfl⟩⟩
theorem de_revd {m : Bool} {e : Expr} {me : M} {k : Nat} {p1 p2 p3 pos : Pos} (he : DE X CL W c e me) : DE X CL W c (.Subscript e (.Slice none none (some (.UnaryOp .USub (.Constant (.int 1) k p1) p2)) p3) pos) (mUn (dRevd m) me) :=
  pimp (pe_revA he) fun σ H Q ⟨r, t, h, Y, S, q⟩ => (rd_bind Y S q).mono fun v H1 ⟨r1, h1, d, e1, Y1, S1, rv, q1⟩ => by
    unfold dRevd at q1
    split at q1
    · rename_i xs e2
      obtain ⟨a, vs, rfl, f, k⟩ := see_lst Y1 rv e2
      exact .inl ⟨a, vs, rfl, .inl (.inl f), fun p np => new_shut Y1 k.rev (fresh_ok q1) np⟩
    · rename_i xs e2
      obtain ⟨a, vs, rfl, f, k⟩ := see_scr rv e2
      exact .inl ⟨a, vs, rfl, f, fun p np => new_shut Y1 k.rev (fresh_ok q1) np⟩
    · rename_i xs e2
      obtain ⟨a, vs, rfl, f, k⟩ := see_tup rv e2
      refine .inr ⟨a, vs, rfl, f.seq, fun p o np pl => ?_⟩
      have x1 : Ext r1 H1 r1 (upd H1 p (.frz o (.tup vs.reverse))) := Ext.laid np
      exact q1 _ r1 _ x1 (Y1.laid np) (.tup (.inl ⟨o, upd_same, pl, Y1.fresh np⟩) (k.rev.mono x1))
    · exact q1.elim
end
end Ev

/-! Ev16: list(reversed(..)), str(..), o[i] = e. -/
namespace RT
open PySem PySem.Spec PyProof.Rows
section
variable {prog : Program} {w : World} {A : Around} {E : Value → Shared → Prop} {s : Shared}
theorem extend_rev {R : Result → Shared → Prop} {it l : Addr} {items : Array Value} (hh : A.handled = none) (hit : s.heap.IsRevIter it l ((items.size : Int) - 1)) (hl : s.heap.IsList l items) (hne : l ≠ it) (hn : items.size ≤ sizeLine) (S : Addr) (hSl : S ≠ l) (hSi : S ≠ it) (res : Value) (c₀ : Nat) (hS : s.heap.get? S = some { cls := .type "list", data := .seq #[] c₀ })
    (hR : ∀ h' tk acc' c', (∀ b o, b ≠ S → b ≠ it → s.heap.get? b = some o → h'.get? b = some o) → h'.get? S = some { cls := .type "list", dict := none, data := .seq acc' c', slots := #[] } →
      ItemsOf (fun i v => items[items.size - 1 - i]? = some v) acc' items.size → R (.ok (.ret res)) { s with heap := h', toks := tk }) :
    wpAny (model prog w) A.in1 (Builtin.List.listExtendWith (.ref S) (.ref it) res)
      (fun fin s' => match fin with | .done f => R (.ok f) s' | .again c' => c'.quiet = true ∧ codeAny (model prog w) A c' R s') (fun e s' => R (.error e) s') s := by
  have W := (Walks.listRev (prog := prog) (w := w) (A := A.in1) hh it l hne items).toS
  have hSf : S ∉ [it, l] := by simp only [List.mem_cons, List.not_mem_nil, or_false, not_or]; exact ⟨hSi, hSl⟩
  have hT : s.TypeIs (.ref it) "list_reverseiterator" := Heap.IsRevIter.typeIs hit
  have h1 : Builtin.List.listSameRef (.ref S) (.ref it) = false := by simp [Builtin.List.listSameRef, hSi]
  unfold Builtin.List.listExtendWith
  refine wpAny_bind (wpAny_typeOf hT ?_)
  rw [if_neg (by rw [h1]; decide)]
  refine wpAny_bind (wpAny_pyIter_revIter hit ?_)
  refine wpAny_bind (wpAny_holding ?_)
  unfold Builtin.List.listLengthHint
  refine wpAny_bind (wpAny_specialOf hT nolen_lri ?_)
  show wpAny _ A.in1 (specialOf (Value.ref it) (Str.ofString "__length_hint__") >>= _) _ _ _
  refine wpAny_bind (wpAny_specialOf hT hint_lri ?_)
  generalize hid : ("list_reverseiterator.__length_hint__" : String) = id0
  wp_delta
  rw [show splitId id0 = some ("list_reverseiterator", "__length_hint__") from by subst hid; decide +kernel]
  subst hid
  refine wpAny_bind (wpAny_isInstance (b := true) hT (by rw [isSubtype_type]; kernel_rfl) ?_)
  refine wpAny_pure ?_
  rw [if_neg (by decide)]
  have e0 : ((items.size : Nat) : Int) - 1 - ((0 : Nat) : Int) = (items.size : Int) - 1 := by omega
  refine wpAny_pure ⟨plainId_quiet F.plain_extend_loop _, codeAny_extend_loopS W hn S hSf res items.size 0 _ _ _ rfl (Nat.zero_le _) ⟨Nat.zero_le _, by rw [e0]; exact hit, hl⟩ hS (ItemsOf.nil _) fun s' acc' c' hm hS' hacc => ?_⟩
  rw [Moved.eq_with hm]
  refine hR s'.heap s'.toks acc' c' (fun b o hb hb2 e => hm.heap b o (fun hmem => ?_) e) hS' hacc
  rcases List.mem_cons.mp hmem with e' | hmem
  · exact hb e'
  · exact hb2 (List.mem_singleton.mp hmem)
theorem list_init_rev {R : Result → Shared → Prop} {it l : Addr} {items : Array Value} (hh : A.handled = none) (hit : s.heap.IsRevIter it l ((items.size : Int) - 1)) (hl : s.heap.IsList l items) (hne : l ≠ it) (hn : items.size ≤ sizeLine) (S : Addr) (hSl : S ≠ l) (hSi : S ≠ it) (hS : s.heap.get? S = some { cls := .type "list", data := .seq #[] })
    (hR : ∀ h' tk acc' c', (∀ b o, b ≠ S → b ≠ it → s.heap.get? b = some o → h'.get? b = some o) → h'.get? S = some { cls := .type "list", dict := none, data := .seq acc' c', slots := #[] } →
      ItemsOf (fun i v => items[items.size - 1 - i]? = some v) acc' items.size → R (.ok (.ret .none)) { s with heap := h', toks := tk }) :
    wpAny (model prog w) A.in1 (Builtin.«list.__init__» ⟨[.ref S, .ref it], []⟩)
      (fun fin s' => match fin with | .done f => R (.ok f) s' | .again c' => c'.quiet = true ∧ codeAny (model prog w) A c' R s') (fun e s' => R (.error e) s') s := by
  show wpAny _ _ (do let old ← Builtin.List.listItems (.ref S); Builtin.List.listUpdate (.ref S) (fun _ => #[]); letGo old.toList.reverse; Builtin.List.listExtendWith (.ref S) (.ref it) .none) _ _ s
  refine wpAny_bind ?_
  unfold Builtin.List.listItems
  refine wpAny_bind (wpAny_seqItems hS rfl (wpAny_pure ?_))
  show wpAny _ _ (updateSeq S (fun _ => #[]) >>= fun _ => letGo (#[] : Array Value).toList.reverse >>= fun _ => Builtin.List.listExtendWith (.ref S) (.ref it) .none) _ _ s
  refine wpAny_bind (wpAny_updateSeq hS rfl ?_)
  have hS₂ := Heap.get?_update_self (Obj.mapSeq (fun _ => (#[] : Array Value))) hS rfl
  have oth : ∀ b o, b ≠ S → s.heap.get? b = some o → (s.heap.update S (Obj.mapSeq (fun _ => (#[] : Array Value)))).get? b = some o :=
    fun b o hb e => (Heap.get?_update_other _ _ (Ne.symm hb)).trans e
  refine wpAny_bind (wpAny_letGo ?_)
  refine extend_rev hh (hit.at fun o e => oth it o (Ne.symm hSi) e) (by obtain ⟨ol, h1, h2⟩ := hl; exact ⟨ol, oth l _ (Ne.symm hSl) h1, h2⟩) hne hn S hSl hSi .none _ hS₂ fun h' tk acc' c' hk hS' hacc => ?_
  exact hR h' tk acc' c' (fun b o hb hb2 e => hk b o hb hb2 (oth b o hb e)) hS' hacc
theorem call_list_rev {it l : Addr} {items : Array Value} {Q : Value → Shared → Prop} (hh : A.handled = none) (hit : s.heap.IsRevIter it l ((items.size : Int) - 1)) (hl : s.heap.IsList l items) (hne : l ≠ it) (hn : items.size ≤ sizeLine)
    (hQ : ∀ h' tk acc' c', (∀ b o, b ≠ it → s.heap.get? b = some o → h'.get? b = some o) →
      h'.get? s.heap.objs.size = some { cls := .type "list", dict := none, data := .seq acc' c', slots := #[] } → ItemsOf (fun i v => items[items.size - 1 - i]? = some v) acc' items.size → Q (.ref s.heap.objs.size) { s with heap := h', toks := tk }) :
    wpAny (model prog w) A (call (.type "list") [.ref it]) Q E s := by
  refine callType_codes (Q₁ := fun obj s₁ => obj = .ref s.heap.objs.size ∧ s₁ = { s with heap := s.heap.push { cls := .type "list", data := .seq #[] } }) F.called_list (F.typeCall_list_1 _) F.entry_list_init
    (code_list_new _ ⟨rfl, rfl⟩) fun obj s₁ h₁ => ?_
  obtain ⟨rfl, rfl⟩ := h₁
  obtain ⟨oi, hoi, _⟩ := id hit
  obtain ⟨ol, hol, _⟩ := id hl
  have hSi : s.heap.objs.size ≠ it := Nat.ne_of_gt (Heap.lt_size hoi)
  have hSl : s.heap.objs.size ≠ l := Nat.ne_of_gt (Heap.lt_size hol)
  have hS : (s.heap.push { cls := .type "list", data := .seq #[] }).get? s.heap.objs.size = some { cls := .type "list", data := .seq #[] } := Heap.get?_push_size _ rfl
  refine ⟨⟨_, hS, rfl⟩, F.args_list_init_2 _ _, list_init_rev (A := A.in1) hh (hit.at fun o e => Heap.get?_push_of_some _ e) (hl.push _) hne hn _ hSl hSi hS fun h' tk acc' c' hk hS' hacc => ?_⟩
  exact ⟨rfl, hQ h' tk acc' c' (fun b o hb e => hk b o (Nat.ne_of_lt (Heap.lt_size e)) hb (Heap.get?_push_of_some _ e)) hS' hacc⟩
end
end RT
namespace Ev
open PySem PySem.Spec PyProof.Rows L2 PySem.Calls
/-! ### list(reversed(..)) of a list -/
def dLRev (m : Bool) (x : D) (h : Hd) : Res D :=
  match listOf h x with
  | some xs => fresh m xs.reverse h
  | none => .stuck
section
variable {X : Cx} {CL : List XC} {W : WX} {c : Calls}
theorem pe_lstRev {e : Expr} {te : TE} {p p2 pos pos2 : Pos} (hc : X.calm = true) (hg : Gl X "list") (hm : X.mg "list" = none) (hg2 : Gl X "reversed") (hm2 : X.mg "reversed" = none) (he : PE X e te)
    (hs : starEach [e] X.env = (false, eval e X.env) :: starEach [] X.env)
    (hs2 : starEach [.Call (.Name "reversed" p2) [e] [] pos2] X.env = (false, eval (.Call (.Name "reversed" p2) [e] [] pos2) X.env) :: starEach [] X.env) :
    PE X (.Call (.Name "list" p) [.Call (.Name "reversed" p2) [e] [] pos2] [] pos) (tRevL X.K te) := by
  refine ⟨fun pins s σ H Q I h => ?_⟩
  refine Call_ (ld_blt I hg hm PyProof.Rows.boot_list (PyProof.Rows.callWith_type1 (args_cons (Call_ (ld_blt I hg2 hm2 PyProof.Rows.boot_reversed (PyProof.Rows.callWith_type1 (args_cons (thn (he.run pins s σ H _ I h) fun u s1 ⟨v, H1, I1, r1, q1⟩ => args_nil ?_) hs) hs rfl))) hs2) hs2 rfl))
  obtain ⟨a, xs, ev, hq, q⟩ := q1
  subst ev
  obtain rfl : u = Value.ref a := r1
  obtain ⟨its, rv, p', hz⟩ := I1.list hq
  refine call_reversed_list p'.isList (args_nil ?_)
  have k0 : ∀ b o, s1.heap.get? b = some o → (s1.heap.push (revObj a ((its.toArray.size : Int) - 1))).get? b = some o := fun b o e => Heap.get?_push_of_some _ e
  have I2 : Inv X pins σ H1 { s1 with heap := s1.heap.push (revObj a ((its.toArray.size : Int) - 1)) } := I1.kept (t' := s1.toks) k0
  obtain ⟨f0, f1, f2, f3, f4, f5⟩ := I1.fpOk (H' := H1) (b := s1.heap.objs.size) (Nat.le_refl _) (I1.hok.fresh (Nat.le_refl _))
  have hl := p'.isList
  obtain ⟨ol, hol, _⟩ := id hl
  have hne : a ≠ s1.heap.objs.size := Nat.ne_of_lt (Heap.lt_size hol)
  have hn : its.toArray.size ≤ sizeLine := by rw [List.size_toArray, ← rv.length]; exact hz
  refine RT.call_list_rev (s := { s1 with heap := s1.heap.push (revObj a ((its.toArray.size : Int) - 1)) }) (I1.ok.hd hc) ⟨_, Heap.get?_push_size _ rfl, rfl, rfl⟩ (hl.push _) hne hn fun h' tk acc hk hK hS hi => ?_
  have hsz : (s1.heap.push (revObj a ((its.toArray.size : Int) - 1))).objs.size = s1.heap.objs.size + 1 := Heap.size_push ..
  have hp : H1 (s1.heap.objs.size + 1) = none := I1.hok.fresh (Nat.le_succ _)
  have hacc : acc.toList.toArray = acc := Array.toArray_toList
  have I3 : Inv X pins σ (upd H1 (s1.heap.objs.size + 1) (.lst xs.reverse)) { s1 with heap := (s1.heap.push (revObj a ((its.toArray.size : Int) - 1))).push { cls := .type "list", dict := none, data := .seq acc hk, slots := #[] } } :=
    I2.laid (t' := s1.toks) (fun b o e => Heap.get?_push_of_some _ e) (Nat.le_of_eq hsz) (show ObjOk X.prog X.w _ _ _ (.lst xs.reverse) from ⟨by rw [List.length_reverse]; exact hz, acc.toList, hk, RT.vals_rev rv hi, by
      rw [hacc]
      exact Heap.get?_push_at hsz.symm rfl⟩)
  obtain ⟨g0, g1, g2, g3, g4, g5⟩ := I1.fpOk (H' := upd H1 (s1.heap.objs.size + 1) (.lst xs.reverse)) (b := s1.heap.objs.size) (Nat.le_refl _) (by rw [upd_ne (Nat.ne_of_lt (Nat.lt_succ_self _))]; exact I1.hok.fresh (Nat.le_refl _))
  have I4 : Inv X pins σ (upd H1 (s1.heap.objs.size + 1) (.lst xs.reverse)) { s1 with heap := h', toks := tk } := I3.turned (t' := tk) (fun b o hb e => ?_) g0 g1 g3 g4 g5
  · refine ⟨.ref _, _, I4, ?_, q _ hp⟩
    show Value.ref (s1.heap.push (revObj a ((its.toArray.size : Int) - 1))).objs.size = _
    rw [hsz]
  · rcases Heap.get?_push_cases e with ⟨rfl, rfl⟩ | e
    · exact hS
    · exact hK b o hb e
theorem de_listRev {m : Bool} {e : Expr} {me : M} {p p2 pos pos2 : Pos} (hc : X.calm = true) (hg : Gl X "list") (hm : X.mg "list" = none) (hg2 : Gl X "reversed") (hm2 : X.mg "reversed" = none) (he : DE X CL W c e me) (hs : starEach [e] X.env = (false, eval e X.env) :: starEach [] X.env)
    (hs2 : starEach [.Call (.Name "reversed" p2) [e] [] pos2] X.env = (false, eval (.Call (.Name "reversed" p2) [e] [] pos2) X.env) :: starEach [] X.env) : DE X CL W c (.Call (.Name "list" p) [.Call (.Name "reversed" p2) [e] [] pos2] [] pos) (mUn (dLRev m) me) :=
  pimp (pe_lstRev hc hg hm hg2 hm2 he hs hs2) fun σ H Q ⟨r, t, h, Y, S, q⟩ => (rd_bind Y S q).mono fun v H1 ⟨r1, h1, d, e1, Y1, S1, rv, q1⟩ => by
    unfold dLRev at q1
    split at q1
    · rename_i xs e2
      obtain ⟨a, vs, rfl, k, f⟩ := list_rep Y1 rv e2
      exact ⟨a, vs, rfl, f, fun p np => new_shut Y1 k.rev (fresh_ok q1) np⟩
    · exact q1.elim
end
end Ev

/-! Ev17: the rules as the printer names them. -/
namespace Ev
open PySem PySem.Spec PyProof.Rows L2 PySem.Calls

theorem fresh_calm {m : Bool} {xs : List D} {h : Hd} {c : Nat} {fs : List D} {h' : Hd} : fresh m xs h ≠ .exn c fs h' := by
  unfold fresh
  split
  · cases m <;> (intro z; cases z)
  · intro z; cases z
theorem freshT_calm {xs : List D} {h : Hd} {c : Nat} {fs : List D} {h' : Hd} : freshT xs h ≠ .exn c fs h' := by
  unfold freshT
  split <;> (intro z; cases z)
theorem freshS_calm {xs : List Nat} {h : Hd} {c : Nat} {fs : List D} {h' : Hd} : freshS xs h ≠ .exn c fs h' := by
  unfold freshS
  split <;> (intro z; cases z)
theorem calm_add {m : Bool} : Calm (dAdd m) := by
  intro x y h c fs h'
  unfold dAdd
  split
  · intro z; cases z
  · exact freshS_calm
  · exact freshT_calm
  · split
    · exact fresh_calm
    · intro z; cases z
theorem calm_sub : Calm dSub := by
  intro x y h c fs h'
  unfold dSub
  split <;> (intro z; cases z)
theorem calm_mul {m : Bool} : Calm (dMul m) := by
  intro x y h c fs h'
  unfold dMul
  split
  · split <;> (intro z; cases z)
  · split
    · split
      · exact fresh_calm
      · intro z; cases z
    · intro z; cases z
  · intro z; cases z
theorem calm_div : Calm dDiv := by
  intro x y h c fs h'
  unfold dDiv
  repeat (first | split | (intro z; cases z))
theorem calm_mod : Calm dMod := by
  intro x y h c fs h'
  unfold dMod
  repeat (first | split | (intro z; cases z))
theorem calm_pow : Calm dPow := by
  intro x y h c fs h'
  unfold dPow
  repeat (first | split | (intro z; cases z))
theorem calm_eq {n : Bool} : Calm (dEq n) := by
  intro x y h c fs h'
  unfold dEq
  split <;> (intro z; cases z)
theorem calm_cmp {f : Int → Int → Bool} {g : List Nat → List Nat → Bool} : Calm (dCmp f g) := by
  intro x y h c fs h'
  unfold dCmp
  split <;> (intro z; cases z)
theorem calm_in {n : Bool} : Calm (dIn n) := by
  intro x y h c fs h'
  unfold dIn dInS
  repeat (first | split | (intro z; cases z))
section
variable {X : Cx} {CL : List XC} {W : WX} {c : Calls} {a b e : Expr} {ma mb me : M} {pos : Pos}
theorem g_var (i : Nat) {x : Str} {pos : Pos} (hN : X.N[i]? = some x := by rfl) (hv : Vis X.env.scope x := by first | exact Or.inl rfl | exact Or.inr (Or.inl rfl) | exact Or.inr (Or.inr rfl)) (hd : (x == ("__debug__" : Str)) = false := by decide)
    (hcd : (x == ("__classdict__" : Str)) = false := by decide) : DE X CL W c (.Name x pos) (mVar i) := de_var hN hv hd hcd
/-- a global constant -/
def GlobIs (K : PySem.W.Frag) (mg : Str → Option Value) (x : Str) (d : D) : Prop := ∃ v u, mg x = some u ∧ RelV v u ∧ Rep K (fun _ => none) Rho.nil v d
theorem g_glob {x : Str} {d : D} (h : GlobIs X.K X.mg x d) (hg : Gl X x := by rfl) (hd : (x == ("__debug__" : Str)) = false := by decide) : DE X CL W c (.Name x pos) (mC d) := by
  obtain ⟨v, u, h1, h2, h3⟩ := h
  exact de_glob hg h1 h2 h3 hd
theorem sok_of {x : Str} (h : (PySem.PyData.strOk x && decide (x.cps.size ≤ 1000000)) = true) : SOk x := by
  rw [Bool.and_eq_true, decide_eq_true_eq] at h
  exact h
theorem g_str {x : Str} {s : List Nat} {j pos} (hs : x.cps.toList = s := by rfl) (hx : (PySem.PyData.strOk x && decide (x.cps.size ≤ 1000000)) = true := by kernel_rfl) : DE X CL W c (.Constant (.str x) j pos) (mC (.str s)) := by
  subst hs
  exact de_str (sok_of hx)
theorem g_nil : DA X CL W c [] aNil := da_nil
theorem g_cons {e : Expr} {es : List Expr} {m : M} {l : ML} (h1 : DE X CL W c e m) (h2 : DA X CL W c es l) (hs : starEach (e :: es) X.env = (false, eval e X.env) :: starEach es X.env := by rfl) : DA X CL W c (e :: es) (aCons m l) := da_cons h1 h2 hs
theorem g_add {m : Bool} (ha : DE X CL W c a ma) (hb : DE X CL W c b mb) : DE X CL W c (.BinOp a .Add b pos) (mOp (dAdd m) ma mb) := de_op calm_add op_addE ha hb
theorem g_sub (ha : DE X CL W c a ma) (hb : DE X CL W c b mb) : DE X CL W c (.BinOp a .Sub b pos) (mOp dSub ma mb) := de_op calm_sub op_subE ha hb
theorem g_mul {m : Bool} (ha : DE X CL W c a ma) (hb : DE X CL W c b mb) : DE X CL W c (.BinOp a .Mult b pos) (mOp (dMul m) ma mb) := de_op calm_mul op_mulE ha hb
theorem g_div (ha : DE X CL W c a ma) (hb : DE X CL W c b mb) : DE X CL W c (.BinOp a .FloorDiv b pos) (mOp dDiv ma mb) := de_op calm_div op_divE ha hb
theorem g_mod (ha : DE X CL W c a ma) (hb : DE X CL W c b mb) : DE X CL W c (.BinOp a .Mod b pos) (mOp dMod ma mb) := de_op calm_mod op_modE ha hb
theorem g_pow (ha : DE X CL W c a ma) (hb : DE X CL W c b mb) : DE X CL W c (.BinOp a .Pow b pos) (mOp dPow ma mb) := de_op calm_pow op_powE ha hb
theorem g_eq (hu : X.A.units + 560 < cLine) (ha : DE X CL W c a ma) (hb : DE X CL W c b mb) (hm : behindInMarks .Eq b = false := by rfl) : DE X CL W c (.Compare a [.Eq] [b] pos) (mOp (dEq false) ma mb) := de_cmp calm_eq (op_eqE hu) ha hb hm
theorem g_ne (hu : X.A.units + 560 < cLine) (ha : DE X CL W c a ma) (hb : DE X CL W c b mb) (hm : behindInMarks .NotEq b = false := by rfl) : DE X CL W c (.Compare a [.NotEq] [b] pos) (mOp (dEq true) ma mb) := de_cmp calm_eq (op_neE hu) ha hb hm
theorem g_lt (ha : DE X CL W c a ma) (hb : DE X CL W c b mb) (hm : behindInMarks .Lt b = false := by rfl) : DE X CL W c (.Compare a [.Lt] [b] pos) (mOp dLt ma mb) := de_cmp calm_cmp op_ltE ha hb hm
theorem g_le (ha : DE X CL W c a ma) (hb : DE X CL W c b mb) (hm : behindInMarks .LtE b = false := by rfl) : DE X CL W c (.Compare a [.LtE] [b] pos) (mOp dLe ma mb) := de_cmp calm_cmp op_leE ha hb hm
theorem g_gt (ha : DE X CL W c a ma) (hb : DE X CL W c b mb) (hm : behindInMarks .Gt b = false := by rfl) : DE X CL W c (.Compare a [.Gt] [b] pos) (mOp dGt ma mb) := de_cmp calm_cmp op_gtE ha hb hm
theorem g_ge (ha : DE X CL W c a ma) (hb : DE X CL W c b mb) (hm : behindInMarks .GtE b = false := by rfl) : DE X CL W c (.Compare a [.GtE] [b] pos) (mOp dGe ma mb) := de_cmp calm_cmp op_geE ha hb hm
theorem g_in (hu : X.A.units + 560 < cLine) (ha : DE X CL W c a ma) (hb : DE X CL W c b mb) (hm : behindInMarks .In b = false := by rfl) : DE X CL W c (.Compare a [.In] [b] pos) (mOp (dIn false) ma mb) := de_cmp (op := .In) calm_in (op_inE (n := false) hu) ha hb hm
theorem g_nin (hu : X.A.units + 560 < cLine) (ha : DE X CL W c a ma) (hb : DE X CL W c b mb) (hm : behindInMarks .NotIn b = false := by rfl) : DE X CL W c (.Compare a [.NotIn] [b] pos) (mOp (dIn true) ma mb) := de_cmp (op := .NotIn) calm_in (op_inE (n := true) hu) ha hb hm
theorem t_eq (hu : X.A.units + 560 < cLine) (ha : DE X CL W c a ma) (hb : DE X CL W c b mb) (hm : behindInMarks .Eq b = false := by rfl) : DT X CL W c (.Compare a [.Eq] [b] pos) (tCmp (mOp (dEq false) ma mb)) := dt_op calm_eq (op_eqE hu) ha hb hm
theorem t_ne (hu : X.A.units + 560 < cLine) (ha : DE X CL W c a ma) (hb : DE X CL W c b mb) (hm : behindInMarks .NotEq b = false := by rfl) : DT X CL W c (.Compare a [.NotEq] [b] pos) (tCmp (mOp (dEq true) ma mb)) := dt_op calm_eq (op_neE hu) ha hb hm
theorem t_lt (ha : DE X CL W c a ma) (hb : DE X CL W c b mb) (hm : behindInMarks .Lt b = false := by rfl) : DT X CL W c (.Compare a [.Lt] [b] pos) (tCmp (mOp dLt ma mb)) := dt_op calm_cmp op_ltE ha hb hm
theorem t_le (ha : DE X CL W c a ma) (hb : DE X CL W c b mb) (hm : behindInMarks .LtE b = false := by rfl) : DT X CL W c (.Compare a [.LtE] [b] pos) (tCmp (mOp dLe ma mb)) := dt_op calm_cmp op_leE ha hb hm
theorem t_gt (ha : DE X CL W c a ma) (hb : DE X CL W c b mb) (hm : behindInMarks .Gt b = false := by rfl) : DT X CL W c (.Compare a [.Gt] [b] pos) (tCmp (mOp dGt ma mb)) := dt_op calm_cmp op_gtE ha hb hm
theorem t_ge (ha : DE X CL W c a ma) (hb : DE X CL W c b mb) (hm : behindInMarks .GtE b = false := by rfl) : DT X CL W c (.Compare a [.GtE] [b] pos) (tCmp (mOp dGe ma mb)) := dt_op calm_cmp op_geE ha hb hm
theorem t_in (hu : X.A.units + 560 < cLine) (ha : DE X CL W c a ma) (hb : DE X CL W c b mb) (hm : behindInMarks .In b = false := by rfl) : DT X CL W c (.Compare a [.In] [b] pos) (tCmp (mOp (dIn false) ma mb)) := dt_op (op := .In) calm_in (op_inE (n := false) hu) ha hb hm
theorem t_nin (hu : X.A.units + 560 < cLine) (ha : DE X CL W c a ma) (hb : DE X CL W c b mb) (hm : behindInMarks .NotIn b = false := by rfl) : DT X CL W c (.Compare a [.NotIn] [b] pos) (tCmp (mOp (dIn true) ma mb)) := dt_op (op := .NotIn) calm_in (op_inE (n := true) hu) ha hb hm
/-- chains of two -/
theorem g_lele (ha : DE X CL W c a ma) (hb : DE X CL W c b mb) (he : DE X CL W c e me) (hm : lastMarks [.LtE, .LtE] [b, e] = false := by rfl) : DE X CL W c (.Compare a [.LtE, .LtE] [b, e] pos) (mChain dLe dLe ma mb me) := de_chain calm_cmp calm_cmp op_leE op_leE ha hb he hm
theorem g_lelt (ha : DE X CL W c a ma) (hb : DE X CL W c b mb) (he : DE X CL W c e me) (hm : lastMarks [.LtE, .Lt] [b, e] = false := by rfl) : DE X CL W c (.Compare a [.LtE, .Lt] [b, e] pos) (mChain dLe dLt ma mb me) := de_chain calm_cmp calm_cmp op_leE op_ltE ha hb he hm
theorem t_lele (ha : DE X CL W c a ma) (hb : DE X CL W c b mb) (he : DE X CL W c e me) (hm : lastMarks [.LtE, .LtE] [b, e] = false := by rfl) : DT X CL W c (.Compare a [.LtE, .LtE] [b, e] pos) (tCmp (mChain dLe dLe ma mb me)) := dt_chain calm_cmp calm_cmp op_leE op_leE ha hb he hm
theorem t_lelt (ha : DE X CL W c a ma) (hb : DE X CL W c b mb) (he : DE X CL W c e me) (hm : lastMarks [.LtE, .Lt] [b, e] = false := by rfl) : DT X CL W c (.Compare a [.LtE, .Lt] [b, e] pos) (tCmp (mChain dLe dLt ma mb me)) := dt_chain calm_cmp calm_cmp op_leE op_ltE ha hb he hm
theorem t_val {m : M} (h : DE X CL W c e m) (he : ∀ whole, isTrue e X.env whole = (do let v ← whole; standAt e.pos; holding [v] (truthy v)) := by intro _; rfl) : DT X CL W c e (tVal m) := dt_val h he
theorem t_w {m : MB} (h : DW X CL W c e m) : DT X CL W c e m := h.pt
theorem g_ix (hu : X.A.units + 560 < cLine) (ha : DE X CL W c a ma) (hb : DE X CL W c b mb) (hs : PlainIx b := by intro _ _; with_unfolding_all rfl) : DE X CL W c (.Subscript a b pos) (mOp dIx ma mb) := de_ix hu ha hb hs
/-! built-in functions -/
theorem calmB_len : CalmB gLen := by
  intro ds h c fs h'; unfold gLen
  repeat (first | split | (intro z; cases z))
theorem calmB_int : CalmB gInt := by
  intro ds h c fs h'; unfold gInt
  repeat (first | split | (intro z; cases z))
theorem calmB_abs : CalmB gAbs := by
  intro ds h c fs h'; unfold gAbs
  repeat (first | split | (intro z; cases z))
theorem calmB_max : CalmB gMax := by
  intro ds h c fs h'; unfold gMax
  repeat (first | split | (intro z; cases z))
theorem calmB_min : CalmB gMin := by
  intro ds h c fs h'; unfold gMin
  repeat (first | split | (intro z; cases z))
theorem calmB_tuple : CalmB gTuple := by
  intro ds h c fs h'; unfold gTuple
  repeat (first | split | (intro z; cases z))
theorem calmB_list {m : Bool} : CalmB (gList m) := by
  intro ds h c fs h'; unfold gList
  split
  · split
    · exact fresh_calm
    · intro z; cases z
  · intro z; cases z
theorem calmB_all : CalmB gEvery := by
  intro ds h c fs h'; unfold gEvery
  repeat (first | split | (intro z; cases z))
theorem calmB_any : CalmB gSome := by
  intro ds h c fs h'; unfold gSome
  repeat (first | split | (intro z; cases z))
theorem calmB_sum : CalmB gSum := by
  intro ds h c fs h'; unfold gSum
  repeat (first | split | (intro z; cases z))
variable {es : List Expr} {l : ML} {p : Pos}
theorem g_len (hm : X.mg "len" = none) (ha : DA X CL W c (e :: es) l) (hg : Gl X "len" := by rfl) (he : starEach (e :: es) X.env = (false, eval e X.env) :: starEach es X.env := by rfl) (hpl : (backTo pos (starEach es X.env)).any (·.1) = false := by rfl) :
    DE X CL W c (.Call (.Name "len" p) (e :: es) [] pos) (mB gLen l) := de_bif calmB_len ca_len hg hm (by first | rfl | kernel_rfl) ha (by decide) (by decide) he hpl
theorem g_abs (hm : X.mg "abs" = none) (ha : DA X CL W c (e :: es) l) (hg : Gl X "abs" := by rfl) (he : starEach (e :: es) X.env = (false, eval e X.env) :: starEach es X.env := by rfl) (hpl : (backTo pos (starEach es X.env)).any (·.1) = false := by rfl) :
    DE X CL W c (.Call (.Name "abs" p) (e :: es) [] pos) (mB gAbs l) := de_bif calmB_abs ca_abs hg hm (by first | rfl | kernel_rfl) ha (by decide) (by decide) he hpl
theorem g_max (hm : X.mg "max" = none) (hc : X.calm = true) (ha : DA X CL W c (e :: es) l) (hg : Gl X "max" := by rfl) (he : starEach (e :: es) X.env = (false, eval e X.env) :: starEach es X.env := by rfl) (hpl : (backTo pos (starEach es X.env)).any (·.1) = false := by rfl) :
    DE X CL W c (.Call (.Name "max" p) (e :: es) [] pos) (mB gMax l) := de_bif calmB_max (ca_max hc) hg hm (by first | rfl | kernel_rfl) ha (by decide) (by decide) he hpl
theorem g_min (hm : X.mg "min" = none) (hc : X.calm = true) (ha : DA X CL W c (e :: es) l) (hg : Gl X "min" := by rfl) (he : starEach (e :: es) X.env = (false, eval e X.env) :: starEach es X.env := by rfl) (hpl : (backTo pos (starEach es X.env)).any (·.1) = false := by rfl) :
    DE X CL W c (.Call (.Name "min" p) (e :: es) [] pos) (mB gMin l) := de_bif calmB_min (ca_min hc) hg hm (by first | rfl | kernel_rfl) ha (by decide) (by decide) he hpl
theorem g_all (hm : X.mg "all" = none) (hc : X.calm = true) (ha : DA X CL W c (e :: es) l) (hg : Gl X "all" := by rfl) (he : starEach (e :: es) X.env = (false, eval e X.env) :: starEach es X.env := by rfl) (hpl : (backTo pos (starEach es X.env)).any (·.1) = false := by rfl) :
    DE X CL W c (.Call (.Name "all" p) (e :: es) [] pos) (mB gEvery l) := de_bif calmB_all (ca_all hc) hg hm (by first | rfl | kernel_rfl) ha (by decide) (by decide) he hpl
theorem g_any (hm : X.mg "any" = none) (hc : X.calm = true) (ha : DA X CL W c (e :: es) l) (hg : Gl X "any" := by rfl) (he : starEach (e :: es) X.env = (false, eval e X.env) :: starEach es X.env := by rfl) (hpl : (backTo pos (starEach es X.env)).any (·.1) = false := by rfl) :
    DE X CL W c (.Call (.Name "any" p) (e :: es) [] pos) (mB gSome l) := de_bif calmB_any (ca_any hc) hg hm (by first | rfl | kernel_rfl) ha (by decide) (by decide) he hpl
theorem g_sum (hm : X.mg "sum" = none) (hc : X.calm = true) (ha : DA X CL W c (e :: es) l) (hg : Gl X "sum" := by rfl) (he : starEach (e :: es) X.env = (false, eval e X.env) :: starEach es X.env := by rfl) (hpl : (backTo pos (starEach es X.env)).any (·.1) = false := by rfl) :
    DE X CL W c (.Call (.Name "sum" p) (e :: es) [] pos) (mB gSum l) := de_bif calmB_sum (ca_sum hc) hg hm (by first | rfl | kernel_rfl) ha (by decide) (by decide) he hpl
theorem g_int (hm : X.mg "int" = none) (ha : DA X CL W c (e :: es) l) (hg : Gl X "int" := by rfl) (he : starEach (e :: es) X.env = (false, eval e X.env) :: starEach es X.env := by rfl) (hpl : (backTo pos (starEach es X.env)).any (·.1) = false := by rfl) :
    DE X CL W c (.Call (.Name "int" p) (e :: es) [] pos) (mB gInt l) := de_bty calmB_int ca_int hg hm (by first | rfl | kernel_rfl) ha (by decide) (by decide) he hpl
theorem g_tuple (hm : X.mg "tuple" = none) (ha : DA X CL W c (e :: es) l) (hg : Gl X "tuple" := by rfl) (he : starEach (e :: es) X.env = (false, eval e X.env) :: starEach es X.env := by rfl) (hpl : (backTo pos (starEach es X.env)).any (·.1) = false := by rfl) :
    DE X CL W c (.Call (.Name "tuple" p) (e :: es) [] pos) (mB gTuple l) := de_bty calmB_tuple ca_tuple hg hm (by first | rfl | kernel_rfl) ha (by decide) (by decide) he hpl
theorem g_list {m : Bool} (hm : X.mg "list" = none) (ha : DA X CL W c (e :: es) l) (hg : Gl X "list" := by rfl) (he : starEach (e :: es) X.env = (false, eval e X.env) :: starEach es X.env := by rfl) (hpl : (backTo pos (starEach es X.env)).any (·.1) = false := by rfl) :
    DE X CL W c (.Call (.Name "list" p) (e :: es) [] pos) (mB (gList m) l) := de_bty calmB_list ca_list hg hm (by first | rfl | kernel_rfl) ha (by decide) (by decide) he hpl
end
end Ev

/-! Ev18: methods, comprehensions, calls, statements as the printer names them. -/
namespace Ev
open PySem PySem.Spec PyProof.Rows L2 PySem.Calls

/-! ### methods -/
def kAppend : Kd → Option FM
  | .list => some fAppend
  | _ => none
def kExtend : Kd → Option FM
  | .list => some fExtend
  | _ => none
def kPop : Kd → Option FM
  | .list => some fPop
  | _ => none
def kInsert : Kd → Option FM
  | .list => some fInsert
  | _ => none
def kReverse : Kd → Option FM
  | .list => some fReverse
  | _ => none
def kClear : Kd → Option FM
  | .list => some fClear
  | _ => none
def fIndexL : FM := fun d ds h => match kindOf d h with
  | some .list => fIndex d ds h
  | _ => .stuck
def fIndexT : FM := fun d ds h => match kindOf d h with
  | some .tuple => fIndex d ds h
  | _ => .stuck
def kIndex : Kd → Option FM
  | .list => some fIndexL
  | .tuple => some fIndexT
  | _ => none
def kGet : Kd → Option FM
  | .dict => some fGet
  | _ => none
def kJoin : Kd → Option FM
  | .str => some fJoin
  | _ => none
section
variable {X : Cx}
theorem fIndex_calm {d : D} {ds : List D} {h : Hd} {c : Nat} {fs : List D} {h' : Hd} : fIndex d ds h ≠ .exn c fs h' := by
  unfold fIndex
  repeat (first | split | (intro z; cases z))
theorem mth_append : ∀ k f, kAppend k = some f → Mth X "append" k f
  | .list, _, rfl => ⟨fun d ds h c fs h' => by unfold fAppend; repeat (first | split | (intro z; cases z)), _, PySem.F.plainAttrs_list, PySem.F.slot_list_append, PySem.F.type_list_append, me_append⟩
theorem mth_extend : ∀ k f, kExtend k = some f → Mth X "extend" k f
  | .list, _, rfl => ⟨fun d ds h c fs h' => by unfold fExtend; repeat (first | split | (intro z; cases z)), _, PySem.F.plainAttrs_list, PySem.F.slot_list_extend, PySem.F.type_list_extend, me_extend⟩
theorem mth_pop : ∀ k f, kPop k = some f → Mth X "pop" k f
  | .list, _, rfl => ⟨fun d ds h c fs h' => by unfold fPop; repeat (first | split | (intro z; cases z)), _, PySem.F.plainAttrs_list, PySem.F.slot_list_pop, PySem.F.type_list_pop, me_pop⟩
theorem mth_insert : ∀ k f, kInsert k = some f → Mth X "insert" k f
  | .list, _, rfl => ⟨fun d ds h c fs h' => by unfold fInsert; repeat (first | split | (intro z; cases z)), _, PySem.F.plainAttrs_list, PySem.F.slot_list_insert, PySem.F.type_list_insert, me_insert⟩
theorem mth_reverse : ∀ k f, kReverse k = some f → Mth X "reverse" k f
  | .list, _, rfl => ⟨fun d ds h c fs h' => by unfold fReverse; repeat (first | split | (intro z; cases z)), _, PySem.F.plainAttrs_list, PySem.F.slot_list_reverse, PySem.F.type_list_reverse, me_reverse⟩
theorem mth_clear : ∀ k f, kClear k = some f → Mth X "clear" k f
  | .list, _, rfl => ⟨fun d ds h c fs h' => by unfold fClear; repeat (first | split | (intro z; cases z)), _, PySem.F.plainAttrs_list, PySem.F.slot_list_clear, PySem.F.type_list_clear, me_clear⟩
theorem mth_index (hu : X.A.units + 560 < cLine) : ∀ k f, kIndex k = some f → Mth X "index" k f
  | .list, _, rfl => ⟨fun d ds h c fs h' => by unfold fIndexL; split <;> first | exact fIndex_calm | (intro z; cases z), _, PySem.F.plainAttrs_list, PySem.F.slot_list_index, PySem.F.type_list_index, me_index hu⟩
  | .tuple, _, rfl => ⟨fun d ds h c fs h' => by unfold fIndexT; split <;> first | exact fIndex_calm | (intro z; cases z), _, PySem.F.plainAttrs_tuple, PySem.F.slot_tuple_index, PySem.F.type_tuple_index, me_tindex hu⟩
theorem mth_get (hu : X.A.units + 560 < cLine) : ∀ k f, kGet k = some f → Mth X "get" k f
  | .dict, _, rfl => ⟨fun d ds h c fs h' => by unfold fGet; repeat (first | split | (intro z; cases z)), _, PySem.F.plainAttrs_dict, PySem.F.slot_dict_get, PySem.F.type_dict_get, me_get hu⟩
theorem mth_join : ∀ k f, kJoin k = some f → Mth X "join" k f
  | .str, _, rfl => ⟨fun d ds h c fs h' => by unfold fJoin; repeat (first | split | (intro z; cases z)), _, PySem.F.plainAttrs_str, PySem.F.slot_str_join, PySem.F.type_str_join, me_join⟩
end
section
variable {X : Cx} {CL : List XC} {W : WX} {c : Calls} {a b e o : Expr} {ma mb me mo : M} {pos p apos : Pos} {es : List Expr} {l : ML}
theorem g_meth {name : Str} {fs : Kd → Option FM} (hm : ∀ k f, fs k = some f → Mth X name k f) (ho : DE X CL W c o mo) (ha : DA X CL W c (e :: es) l) (hbase : attributeBase o name X.env (eval o X.env) = eval o X.env := by rfl)
    (hfew : ((backTo pos (starEach (e :: es) X.env)).all (fun x => !x.1) && (backToKw pos (keywordEach [] X.env)).all (fun x => x.1.isSome) && decide ((e :: es).length + ([] : List Keyword).length + (if ([] : List Keyword).isEmpty then 0 else 1) < 30)) = true := by rfl)
    (hline : (apos.endLine == pos.line) = true := by rfl) (hs : starEach (e :: es) X.env = (false, eval e X.env) :: starEach es X.env := by rfl) (hplain : (backTo pos (starEach es X.env)).any (·.1) = false := by rfl) :
    DE X CL W c (.Call (.Attribute o name apos) (e :: es) [] pos) (mMt fs mo l) := de_meth hm ho ha hbase hfew hline hs hplain
theorem g_meth0 {name : Str} {fs : Kd → Option FM} (hm : ∀ k f, fs k = some f → Mth X name k f) (ho : DE X CL W c o mo) (hbase : attributeBase o name X.env (eval o X.env) = eval o X.env := by rfl) (hline : (apos.endLine == pos.line) = true := by rfl) :
    DE X CL W c (.Call (.Attribute o name apos) [] [] pos) (mMt fs mo aNil) := de_meth0 hm ho hbase hline
theorem g_isi (n : Ty) {y : Str} {p2 : Pos} (hm : X.mg "isinstance" = none) (hm2 : X.mg y = none) (he : DE X CL W c e me) (hg : Gl X "isinstance" := by rfl) (hg2 : Gl X y := by rfl) (hv2 : bootBuiltins y = some (.type n.n) := by first | rfl | kernel_rfl) (hn2 : y ≠ "__name__" := by decide) (hdb2 : (y == ("__debug__" : Str)) = false := by decide)
    (hs : starEach [e, .Name y p2] X.env = (false, eval e X.env) :: starEach [.Name y p2] X.env := by rfl) : DE X CL W c (.Call (.Name "isinstance" p) [e, .Name y p2] [] pos) (mUn (dIs n) me) :=
  de_isi hg hm (by first | rfl | kernel_rfl) hg2 hm2 hv2 he (by decide) (by decide) hn2 hdb2 hs
theorem g_call {x : Str} {ps : List Str} {j k : Nat} (C : CalleeOk X.prog X.w X.K X.mg X.base CL k (c j) x ps) (hr : Room k X.A) (tk : Takes X W) (ha : DA X CL W c (e :: es) l) (hg : Gl X x := by rfl)
    (hdb : (x == ("__debug__" : Str)) = false := by decide) (he : starEach (e :: es) X.env = (false, eval e X.env) :: starEach es X.env := by rfl) (hpl : (backTo pos (starEach es X.env)).any (·.1) = false := by rfl) : DE X CL W c (.Call (.Name x p) (e :: es) [] pos) (mCall j l) :=
  de_call C hr hg tk ha hdb he hpl
/-! str of an int -/
def dStr (x : D) (h : Hd) : Res D := match x with
  | .int i => if i.natAbs.log2 < 1920 ∧ (PySem.PyData.strOk (PySem.Str.ofString (toString i)) && decide ((PySem.Str.ofString (toString i)).cps.size ≤ 1000000)) = true then .ok (.str (PySem.Str.ofString (toString i)).cps.toList) h else .stuck
  | _ => .stuck
def gStr : FB := fun ds h => match ds with
  | [x] => dStr x h
  | _ => .stuck
theorem ca_str : CaE X (.type "str") gStr := by
  intro pins s σ H xs us Q I rv ⟨r, h, ds, Y, ra, q⟩
  unfold gStr dStr at q
  split at q
  · obtain ⟨v, rfl, rp⟩ := one_of ra
    split at q
    · rename_i i
      split at q
      · rename_i hb
        cases rp
        exact call_str_int pins s σ H _ us Q I rv ⟨i, rfl, hb.1, q.now Y (.str _ (sok_of hb.2))⟩
      · exact q.elim
    · exact q.elim
  · exact q.elim
theorem calmB_str : CalmB gStr := by
  intro ds h c fs h'; unfold gStr dStr
  repeat (first | split | (intro z; cases z))
theorem g_strI (hm : X.mg "str" = none) (ha : DA X CL W c (e :: es) l) (hg : Gl X "str" := by rfl) (he : starEach (e :: es) X.env = (false, eval e X.env) :: starEach es X.env := by rfl) (hpl : (backTo pos (starEach es X.env)).any (·.1) = false := by rfl) :
    DE X CL W c (.Call (.Name "str" p) (e :: es) [] pos) (mB gStr l) := de_bty calmB_str ca_str hg hm (by first | rfl | kernel_rfl) ha (by decide) (by decide) he hpl
theorem g_revd {m : Bool} {k : Nat} {p1 p2 p3 : Pos} (he : DE X CL W c e me) : DE X CL W c (.Subscript e (.Slice none none (some (.UnaryOp .USub (.Constant (.int 1) k p1) p2)) p3) pos) (mUn (dRevd m) me) := de_revd he
theorem g_listRev {m : Bool} {p2 pos2 : Pos} (hm : X.mg "list" = none) (hm2 : X.mg "reversed" = none) (hc : X.calm = true) (he : DE X CL W c e me) (hg : Gl X "list" := by rfl) (hg2 : Gl X "reversed" := by rfl) (hs : starEach [e] X.env = (false, eval e X.env) :: starEach [] X.env := by rfl)
    (hs2 : starEach [.Call (.Name "reversed" p2) [e] [] pos2] X.env = (false, eval (.Call (.Name "reversed" p2) [e] [] pos2) X.env) :: starEach [] X.env := by rfl) : DE X CL W c (.Call (.Name "list" p) [.Call (.Name "reversed" p2) [e] [] pos2] [] pos) (mUn (dLRev m) me) := de_listRev hc hg hm hg2 hm2 he hs hs2
/-! iterators -/
theorem g_rng1 {tg : Expr} (hm : X.mg "range" = none) (ha : DE X CL W c a ma) (hg : Gl X "range" := by rfl) (hs : starEach [a] X.env = [(false, eval a X.env)] := by rfl) : DI X CL W c tg (.Call (.Name "range" p) [a] [] pos) (iRng1 ma) := di_rng1 hg hm ha hs
theorem g_rng2 {tg : Expr} (hm : X.mg "range" = none) (ha : DE X CL W c a ma) (hb : DE X CL W c b mb) (hg : Gl X "range" := by rfl) (hs : starEach [a, b] X.env = [(false, eval a X.env), (false, eval b X.env)] := by rfl) (hs2 : starEach [b] X.env = [(false, eval b X.env)] := by rfl) :
    DI X CL W c tg (.Call (.Name "range" p) [a, b] [] pos) (iRng2 ma mb) := di_rng2 hg hm ha hb hs hs2
theorem g_rev {tg : Expr} (hm : X.mg "reversed" = none) (he : DE X CL W c e me) (hg : Gl X "reversed" := by rfl) (hs : starEach [e] X.env = (false, eval e X.env) :: starEach [] X.env := by rfl) : DI X CL W c tg (.Call (.Name "reversed" p) [e] [] pos) (iRevV me) := di_rev hg hm he hs
/-! targets -/
theorem g_nm (i : Nat) {x : Str} (hN : X.N.Nodup) (hi : X.N[i]? = some x := by rfl) (hx : Loc X.env.scope x := by first | exact Or.inl rfl | exact Or.inr rfl) (hf : X.fn x = true ∨ X.env.scope.names.lookup x = some .local := by first | exact Or.inl rfl | exact Or.inr rfl) : DG X (.Name x pos) (.nm i) := dg_nm hN hi hx hf
theorem g_nms0 : Nms X [] [] := .nil
theorem g_nms {x : Str} {pos : Pos} (i : Nat) {es : List Expr} {is : List Nat} (h : Nms X es is) (hi : X.N[i]? = some x := by rfl) (hx : Loc X.env.scope x := by first | exact Or.inl rfl | exact Or.inr rfl) (hf : X.fn x = true ∨ X.env.scope.names.lookup x = some .local := by first | exact Or.inl rfl | exact Or.inr rfl) : Nms X (.Name x pos :: es) (i :: is) := .cons hi hx hf h
/-! comprehensions -/
theorem pts_none {K : PySem.W.Frag} {X : Cx} : PTs X [] (rd K CL W0 relB c tYesM) := ⟨fun pins s σ H Q I ⟨r, t, h, Y, S, q⟩ => pts_nil.run pins s σ H Q I (q.now Y rfl)⟩
theorem g_comp {elt tg iter : Expr} {ifs : List Expr} {scope : Scope} (own : List (Str × Nat)) {mi : MI} {g : Tg} {mk : MB} {bb : Bool} (hc : X.calm = true) (hN : X.N.Nodup) (hi : DI X CL W c tg iter mi)
    (hg : BlkP X scope fun X' => DG X' tg g) (hk : BlkP X scope fun X' => PTs X' ifs (rd X.K CL W0 relB c mk)) (he : BlkP X scope fun X' => DE X' CL W0 c elt me) (ok : blkC X.N X.env.scope scope own = true := by first | rfl | kernel_rfl) (ho : ∀ i ∈ g.own, i ∈ own.map (·.2) := by decide) (hs : ∀ x, foldedSetIterable iter X.env x = pure x := by intro _; rfl) :
    DE X CL W c (.ListComp elt [⟨tg, iter, ifs, 0⟩] scope pos) (mComp bb mi g (own.map (·.2)) mk me) := de_comp hc hN hi (blkOk_by ok) hg hk he ho hs
/-! statements -/
theorem s_expr {m : M} (h : DE X CL W c e m) (hs : swapsWith e none pos.line X.env = pure false := by rfl) : DS X CL W c (.Expr e pos) (sExpr m) := ds_expr h hs
theorem s_set {x : Str} (i : Nat) {m : M} {px : Pos} (hN : X.N.Nodup) (h : DE X CL W c e m) (hi : X.N[i]? = some x := by rfl) (hx : Loc X.env.scope x := by first | exact Or.inl rfl | exact Or.inr rfl) (hf : X.fn x = true ∨ X.env.scope.names.lookup x = some .local := by first | exact Or.inl rfl | exact Or.inr rfl)
    (hs : swapsWith e (some (.Name x px)) pos.line X.env = pure false := by rfl) : DS X CL W c (.Assign [.Name x px] e pos) (sSet i m) := ds_set h hN hi hx hf hs
theorem s_asg {g : Tg} {tg : Expr} {m : M} (h : DE X CL W c e m) (hg : DG X tg g) (hs : swapsWithSole [tg] e pos.line X.env = pure false := by rfl) (hw : swappedStores [tg] e X.env = pure none := by rfl) (h1 : (assignEach [tg] X.env).map (·.2) = [assign tg X.env] := by rfl) : DS X CL W c (.Assign [tg] e pos) (sAsg g m) := ds_asg h hg hs hw h1
theorem s_setc {x : Str} (i : Nat) {px spos : Pos} {elt tg iter : Expr} {ifs : List Expr} {scope : Scope} (own : List (Str × Nat)) {mi : MI} {g : Tg} {mk : MB} {bb : Bool} (hc : X.calm = true) (hN : X.N.Nodup) (hi : DI X CL W c tg iter mi)
    (hg : BlkP X scope fun X' => DG X' tg g) (hk : BlkP X scope fun X' => PTs X' ifs (rd X.K CL W0 relB c mk)) (he : BlkP X scope fun X' => DE X' CL W0 c elt me) (ok : blkC X.N X.env.scope scope own = true := by first | rfl | kernel_rfl) (ho : ∀ i ∈ g.own, i ∈ own.map (·.2) := by decide) (hs : ∀ x, foldedSetIterable iter X.env x = pure x := by intro _; rfl)
    (hk' : X.env.scope.kind = .function := by rfl) (hy : X.N[i]? = some x := by rfl) (hyl : X.env.scope.names.lookup x = some .local := by rfl) (hl : (px.line == pos.line) = true := by rfl) (hna : (scope.names.any fun (n, k) => n == x && (k == .local || k == .cell)) = false := by rfl) :
    DS X CL W c (.Assign [.Name x px] (.ListComp elt [⟨tg, iter, ifs, 0⟩] scope pos) spos) (sSet i (mComp bb mi g (own.map (·.2)) mk me)) :=
  psimp (ps_setLc (g := TGD X.K g) (tt := rd X.K CL W0 relB c mk) (te := rd X.K CL W0 (relD X.K) c me) hc hN hy hyl (sw_true hk' hyl hl hna) hi (blkOk_by ok) hg hk he hs) fun E σ H ⟨r, t, h, Y, S, q⟩ => by
    obtain ⟨r', t', h', Y', S', q'⟩ : rd X.K CL W (relD X.K) c (mComp bb mi g (own.map (·.2)) mk me) σ H fun v H1 => E.nx (σ.set i (some v)) H1 :=
      (rs_bind Y S q).mono fun v H1 ⟨r1, h1, d, e1, Y1, S1, rv, q1⟩ => q1.nx Y1 (S1.set i rv)
    exact (rd_bind (rel1 := relI X.K) Y' S' q').mono fun J H1 ⟨r1, h1, s, e1, Y1, S1, rI, q1⟩ => fun p np => comp_core Y1 S1 rI ho q1 p np
/-- o[i] = e -/
theorem s_sub {i : Expr} {mi : M} {pt : Pos} (ho : DE X CL W c o mo) (hi : DE X CL W c i mi) (he : DE X CL W c e me) (hs : swapsWithSole [.Subscript o i pt] e pos.line X.env = pure false := by rfl) (hw : swappedStores [.Subscript o i pt] e X.env = pure none := by rfl)
    (h1 : (assignEach [.Subscript o i pt] X.env).map (·.2) = [assign (.Subscript o i pt) X.env] := by rfl)
    (ha : ∀ v, assign (.Subscript o i pt) X.env v = (do
      let ov ← holding [v] (eval o X.env)
      let iv ← holding [v, ov] (eval i X.env)
      standAt pt
      holding [v, ov, iv] (setItem ov iv v)
      release [v, ov, iv] []) := by intro _; rfl) : DS X CL W c (.Assign [.Subscript o i pt] e pos) (sSub mo mi me) :=
  psimp (ps_asg he (pg_sub ho hi set_list ha) hs hw h1) fun E σ H ⟨r, t, h, Y, S, q⟩ => (rs_bind Y S q).mono fun v H1 ⟨r1, h1, d, e1, Y1, S1, rv, q1⟩ => (rs_bind Y1 S1 q1).mono fun x H2 ⟨r2, h2, dx, e2, Y2, S2, rx, q2⟩ => (rs_bind Y2 S2 q2).mono fun y H3 ⟨r3, h3, dy, e3, Y3, S3, ry, q3⟩ => by
    unfold dSet at q3
    split at q3
    · rename_i j
      split at q3
      · rename_i xs ej
        split at q3
        · rename_i n
          split at q3
          · rename_i jj ejj
            have rx3 := rx.mono e3
            cases ry
            cases rx3 with
            | ref f =>
              obtain ⟨o', h4, h5⟩ := Y3.get _ _ f
              rw [ej] at h4; cases h4
              obtain ⟨vs, h6, h7⟩ := h5
              have rv3 := (rv.mono e2).mono e3
              obtain ⟨Y4, x4⟩ := set_any (j := jj) Y3 f h7 rv3
              exact ⟨_, vs, n, jj, rfl, rfl, h6, by rw [h7.len]; exact ejj, rdS.nx (rdS.ext x4 q3) Y4 (S3.mono x4)⟩
            | dead f =>
              have := Y3.dead _ f
              rw [ej] at this; cases this
          · exact q3.elim
        · exact q3.elim
      · exact q3.elim
    · exact q3.elim
end
end Ev

/-! Ev19: errors as the printer names them. -/
namespace Ev
open PySem PySem.Spec PyProof.Rows L2 PySem.Calls
open PySem.W (Frag)
theorem takes00 {X : Cx} : Takes X W0 := fun _ _ x => by
  obtain ⟨_, _, _, _, _, _, _, _, _, _, _, _, _, _, _, _, z⟩ := x
  exact z.elim
theorem hu_of23 {A : Around} {k : Nat} (hr : Room k A) (hk : 23 ≤ k) : A.units + 560 < cLine := by
  have := hr.un
  omega
/-- what the written part says of all error classes -/
structure XAll (K : Frag) (CL : List XC) (nmf : Nat → List Str) : Prop where
  nm : ∀ (k : Nat) (y : XC), CL[k]? = some y → nmf k = y.fields
  xf : ∀ (k : Nat) (y : XC), CL[k]? = some y → XfC K y.addr
  no : ∀ (k : Nat) (y : XC), CL[k]? = some y → ∀ f ∈ y.fields, PySem.W.findIn K (.ref y.addr) f = some none
  ex : ∀ (k : Nat) (y : XC), CL[k]? = some y → ExcC K y.addr
section
variable {X : Cx} {CL : List XC} {W : WX} {c : Calls} {a : Addr} {oe : Obj} {d : Option Addr} {pn : List (Addr × Obj)} {e : Expr} {m : M} {pos p : Pos} {k : Nat} {y : XC} {nmf : Nat → List Str}
theorem zip_none {β : Type} {f : Str} : ∀ {nm : List Str} {vs : List β}, f ∉ nm → (nm.zip vs).lookup f = none
  | [], _, _ => by simp
  | _ :: _, [], _ => by simp
  | g :: nm, v :: vs, h => by
    have h1 : f ≠ g := fun e => h (by rw [e]; exact List.mem_cons_self)
    rw [List.zip_cons_cons, List.lookup_cons, beq_eq_false_iff_ne.mpr h1]
    exact zip_none fun m => h (List.mem_cons_of_mem _ m)
theorem g_fld {f : Str} (G : XAll X.K CL nmf) (hy : CL[k]? = some y) (hz : Zc (.ref y.addr) d oe) (hf : ∃ vs, oe.data = .fields vs) (he : DE (X.suite a ((a, oe) :: pn)) CL W c e m) (hb : attributeBase e f X.env (eval e X.env) = eval e X.env := by rfl) :
    DE (X.suite a ((a, oe) :: pn)) CL W c (.Attribute e f pos) (mUn (dFld a d (nmf k) f) m) := by
  by_cases hm : f ∈ nmf k
  · exact de_fld (G.xf k y hy) (fun _ => G.no k y hy f (by rw [← G.nm k y hy]; exact hm)) hz hf he hm hb
  · refine ⟨fun pins s σ H Q I ⟨r, t, h, Y, S, q⟩ => attr_of hb (thn (he.run pins s σ H (fun _ _ => False) I ((rd_bind Y S q).mono fun v H1 ⟨r1, h1, x, e1, Y1, S1, rv, q1⟩ => ?_)) fun u s1 ⟨_, _, _, _, z⟩ => z.elim)⟩
    unfold dFld at q1
    split at q1
    · split at q1
      · rename_i fs hcc
        rw [zip_none hm] at q1
        exact q1
      · exact q1
    · exact q1
theorem g_isXo {E : Str} {cE : Addr} {b : Bool} {p2 : Pos} (G : XAll X.K CL nmf) (hy : CL[k]? = some y) (hz : Zc (.ref y.addr) d oe) (hf : ∃ vs, oe.data = .fields vs) (hm : X.mg "isinstance" = none) (hE : X.mg E = some (.ref cE)) (hk : PySem.W.kitOne X.K (.ref y.addr) (.ref cE) = some b) (he : DE (X.suite a ((a, oe) :: pn)) CL W c e m)
    (hg : Gl X "isinstance" := by rfl) (hg2 : Gl X E := by rfl) (hd2 : (E == ("__debug__" : Str)) = false := by decide) (hs : starEach [e, .Name E p2] X.env = (false, eval e X.env) :: starEach [.Name E p2] X.env := by rfl) :
    DE (X.suite a ((a, oe) :: pn)) CL W c (.Call (.Name "isinstance" p) [e, .Name E p2] [] pos) (mUn (dIsX a d b) m) :=
  de_isX (cx := .ref cE) (cv := .ref cE) (G.ex k y hy) hz hf hg hm (by first | rfl | kernel_rfl) (by decide) (by decide) he (pe_glob (X := X.suite a ((a, oe) :: pn)) hg2 hE rfl hd2) (fun u r => r) hk hs rfl rfl
theorem g_isXb {E : Str} {T : String} {b : Bool} {p2 : Pos} (G : XAll X.K CL nmf) (hy : CL[k]? = some y) (hz : Zc (.ref y.addr) d oe) (hf : ∃ vs, oe.data = .fields vs) (hm : X.mg "isinstance" = none) (hE : X.mg E = none) (hk : PySem.W.kitOne X.K (.ref y.addr) (.type T) = some b) (he : DE (X.suite a ((a, oe) :: pn)) CL W c e m)
    (hv : bootBuiltins E = some (.type T) := by first | rfl | kernel_rfl) (hg : Gl X "isinstance" := by rfl) (hg2 : Gl X E := by rfl) (hn : E ≠ "__name__" := by decide) (hd2 : (E == ("__debug__" : Str)) = false := by decide) (hs : starEach [e, .Name E p2] X.env = (false, eval e X.env) :: starEach [.Name E p2] X.env := by rfl) :
    DE (X.suite a ((a, oe) :: pn)) CL W c (.Call (.Name "isinstance" p) [e, .Name E p2] [] pos) (mUn (dIsX a d b) m) :=
  de_isX (cx := .ty T) (cv := .type T) (G.ex k y hy) hz hf hg hm (by first | rfl | kernel_rfl) (by decide) (by decide) he (pe_bltn (X := X.suite a ((a, oe) :: pn)) hg2 hE hv (v := .ty T) rfl hn hd2) (fun u r => r) hk hs rfl rfl
end
end Ev

/-! Ev20: constants of the top. -/
namespace Ev
open PySem PySem.Spec PyProof.Rows L2 PySem.Calls
open PySem.W (Frag)
theorem rep_lit {K : Frag} {H : Hp} {r : Rho} {x : Str} {s : List Nat} (hs : x.cps.toList = s) (hx : (PySem.PyData.strOk x && decide (x.cps.size ≤ 1000000)) = true) : Rep K H r (.str x) (.str s) := by
  subst hs
  exact .str x (sok_of hx)
theorem rep_ktup {K : Frag} {a : Addr} {us : List Value} {m : Nat} {vs : List V} {ds : List D} (l : K.lookup a = some { cls := .type "tuple", dict := none, data := .seq us.toArray m, slots := #[] }) (rv : Vals vs us) (hz : us.length ≤ sizeLine) (ra : RepA K (fun _ => none) Rho.nil vs ds) : Rep K (fun _ => none) Rho.nil (.ref a) (.tup ds) :=
  .tup (.inr ⟨.inr ⟨_, us.toArray, m, l, rfl, rfl, by rw [List.size_toArray]; exact hz, by simpa using rv⟩, _, l, _, _, rfl⟩) ra
end Ev

/-! Ev21: evaluation by simp. -/
namespace Ev
open PySem L2
section
variable {α β : Type} {c : Calls} {t : Tau} {h : Hd}
@[simp] theorem bind_ok (a : α) (k : α → Hd → Res β) : (Res.ok a h).bind k = k a h := rfl
@[simp] theorem bind_exn (n : Nat) (fs : List D) (k : α → Hd → Res β) : (Res.exn n fs h).bind k = .exn n fs h := rfl
@[simp] theorem bind_stuck (k : α → Hd → Res β) : (Res.stuck : Res α).bind k = .stuck := rfl
@[simp] theorem toS_ok (a : α) (k : α → Hd → SR) : (Res.ok a h).toS t k = k a h := rfl
@[simp] theorem toS_exn (n : Nat) (fs : List D) (k : α → Hd → SR) : (Res.exn n fs h).toS t k = .exn n fs t h := rfl
@[simp] theorem toS_stuck (k : α → Hd → SR) : (Res.stuck : Res α).toS t k = .stuck := rfl
@[simp] theorem seq_nx (k : Tau → Hd → SR) : (SR.nx t h).seq k = k t h := rfl
@[simp] theorem seq_rt (d : D) (k : Tau → Hd → SR) : (SR.rt d h).seq k = .rt d h := rfl
@[simp] theorem seq_bk (k : Tau → Hd → SR) : (SR.bk t h).seq k = .bk t h := rfl
@[simp] theorem seq_ct (k : Tau → Hd → SR) : (SR.ct t h).seq k = .ct t h := rfl
@[simp] theorem seq_exn (n : Nat) (fs : List D) (k : Tau → Hd → SR) : (SR.exn n fs t h).seq k = .exn n fs t h := rfl
@[simp] theorem turn_nx (k : Tau → Hd → SR) : (SR.nx t h).turn k = k t h := rfl
@[simp] theorem turn_ct (k : Tau → Hd → SR) : (SR.ct t h).turn k = k t h := rfl
@[simp] theorem turn_bk (k : Tau → Hd → SR) : (SR.bk t h).turn k = .nx t h := rfl
@[simp] theorem turn_rt (d : D) (k : Tau → Hd → SR) : (SR.rt d h).turn k = .rt d h := rfl
@[simp] theorem turn_exn (n : Nat) (fs : List D) (k : Tau → Hd → SR) : (SR.exn n fs t h).turn k = .exn n fs t h := rfl
@[simp] theorem mVar_ev (i : Nat) : mVar i c t h = match t[i]? with | some (some d) => .ok d h | _ => .stuck := rfl
@[simp] theorem mC_ev (d : D) : mC d c t h = .ok d h := rfl
@[simp] theorem aNil_ev : aNil c t h = .ok [] h := rfl
@[simp] theorem aCons_ev (m : M) (l : ML) : aCons m l c t h = (m c t h).bind fun d h1 => (l c t h1).bind fun ds h2 => .ok (d :: ds) h2 := rfl
@[simp] theorem mTup_ev (l : ML) : mTup l c t h = (l c t h).bind freshT := rfl
@[simp] theorem mLst_ev (b : Bool) (l : ML) : mLst b l c t h = (l c t h).bind (fresh b) := rfl
@[simp] theorem mOp_ev (f : D → D → Hd → Res D) (a b : M) : mOp f a b c t h = (a c t h).bind fun x h1 => (b c t h1).bind fun y h2 => f x y h2 := rfl
@[simp] theorem mUn_ev (f : D → Hd → Res D) (a : M) : mUn f a c t h = (a c t h).bind f := rfl
@[simp] theorem tVal_ev (a : M) : tVal a c t h = (a c t h).bind dTrue := rfl
@[simp] theorem tCmp_ev (a : M) : tCmp a c t h = (a c t h).bind dBl := rfl
@[simp] theorem dBl_ev (b : Bool) : dBl (.bl b) h = .ok b h := rfl
@[simp] theorem dTrue_bl (b : Bool) : dTrue (.bl b) h = .ok b h := rfl
@[simp] theorem tAnd_ev (a b : MB) : tAnd a b c t h = (a c t h).bind fun k h1 => if k then b c t h1 else .ok false h1 := rfl
@[simp] theorem tOr_ev (a b : MB) : tOr a b c t h = (a c t h).bind fun k h1 => if k then .ok true h1 else b c t h1 := rfl
@[simp] theorem tNot_ev (a : MB) : tNot a c t h = (a c t h).bind fun k h1 => .ok (!k) h1 := rfl
@[simp] theorem mAnd_ev (a b : M) : mAnd a b c t h = (a c t h).bind fun x h1 => (dTrue x h1).bind fun k h2 => if k then b c t h2 else .ok x h2 := rfl
@[simp] theorem mOr_ev (a b : M) : mOr a b c t h = (a c t h).bind fun x h1 => (dTrue x h1).bind fun k h2 => if k then .ok x h2 else b c t h2 := rfl
@[simp] theorem mIf_ev (k : MB) (a b : M) : mIf k a b c t h = (k c t h).bind fun z h1 => if z then a c t h1 else b c t h1 := rfl
@[simp] theorem mChain_ev (f g : D → D → Hd → Res D) (a b e : M) : mChain f g a b e c t h = (a c t h).bind fun x h1 => (b c t h1).bind fun y h2 => (f x y h2).bind fun z h3 => (dBl z h3).bind fun k h4 =>
  if k then (e c t h4).bind fun w h5 => g y w h5 else .ok (.bl false) h4 := rfl
@[simp] theorem mCall_ev (i : Nat) (l : ML) : mCall i l c t h = (l c t h).bind fun ds h1 => c i ds h1 := rfl
@[simp] theorem mB_ev (f : List D → Hd → Res D) (l : ML) : mB f l c t h = (l c t h).bind f := rfl
@[simp] theorem pNo_ev : pNo c t h = .ok none h := rfl
@[simp] theorem pYes_ev (a : M) : pYes a c t h = (a c t h).bind dPart := rfl
@[simp] theorem dPart_ev (i : Int) : dPart (.int i) h = .ok (some i) h := rfl
@[simp] theorem mCut_ev (m : Bool) (a : M) (lo hi : Calls → Tau → Hd → Res (Option Int)) : mCut m a lo hi c t h = (a c t h).bind fun x h1 => (lo c t h1).bind fun l h2 => (hi c t h2).bind fun u h3 => dCut m x l u h3 := rfl
@[simp] theorem mMt_ev (fs : Kd → Option FM) (o : M) (l : ML) : mMt fs o l c t h = (o c t h).bind fun x h1 => match kindOf x h1 with
  | none => .stuck
  | some k => match fs k with
    | none => .stuck
    | some f => (l c t h1).bind fun ds h2 => f x ds h2 := rfl
@[simp] theorem sNil_ev : sNil c t h = .nx t h := rfl
@[simp] theorem sSeq_ev (a b : MS) : sSeq a b c t h = (a c t h).seq fun t' h' => b c t' h' := rfl
@[simp] theorem sExpr_ev (m : M) : sExpr m c t h = (m c t h).toS t fun _ h' => .nx t h' := rfl
@[simp] theorem sRet_ev (m : M) : sRet m c t h = (m c t h).toS t fun d h' => .rt d h' := rfl
@[simp] theorem sRetN_ev : sRetN c t h = .rt .non h := rfl
@[simp] theorem sBreak_ev : sBreak c t h = .bk t h := rfl
@[simp] theorem sCont_ev : sCont c t h = .ct t h := rfl
@[simp] theorem sSet_ev (i : Nat) (m : M) : sSet i m c t h = (m c t h).toS t fun d h' => .nx (t.set i (some d)) h' := rfl
@[simp] theorem sAsg_ev (g : Tg) (m : M) : sAsg g m c t h = (m c t h).toS t fun d h' => match asg g d t with
  | some t' => .nx t' h'
  | none => .stuck := rfl
@[simp] theorem sIf_ev (k : MB) (a b : MS) : sIf k a b c t h = (k c t h).toS t fun z h' => if z then a c t h' else b c t h' := rfl
@[simp] theorem sSub_ev (o i m : M) : sSub o i m c t h = (m c t h).toS t fun v h1 => (o c t h1).toS t fun x h2 => (i c t h2).toS t fun y h3 => (dSet x y v h3).toS t fun _ h4 => .nx t h4 := rfl
@[simp] theorem sRaise_ev (ci n : Nat) (l : ML) : sRaise ci n l c t h = (l c t h).toS t fun ds h' => if ds.length = n then .exn ci ds t h' else .stuck := rfl
@[simp] theorem tYes_ev : tYesM c t h = .ok true h := rfl
@[simp] theorem iVal_ev (m : M) : iVal m c t h = (m c t h).bind dIter := rfl
@[simp] theorem iRng1_ev (m : M) : iRng1 m c t h = (m c t h).bind dRng1 := rfl
@[simp] theorem iRng2_ev (a b : M) : iRng2 a b c t h = (a c t h).bind fun x h1 => (b c t h1).bind fun y h2 => dRng2 x y h2 := rfl
@[simp] theorem iRevV_ev (m : M) : iRevV m c t h = (m c t h).bind dRev := rfl
@[simp] theorem freshF (xs : List D) (hz : xs.length ≤ 16777216) : fresh false xs h = .ok (.lst xs) h := by
  unfold fresh
  rw [if_pos (by rw [sizeLine_eq]; exact hz), if_neg (by decide)]
@[simp] theorem freshO (xs : List D) (hz : xs.length ≤ 16777216) : fresh true xs h = .ok (.ref h.length) (h ++ [.lst xs]) := by
  unfold fresh
  rw [if_pos (by rw [sizeLine_eq]; exact hz), if_pos rfl]
@[simp] theorem freshT_ev (xs : List D) (hz : xs.length ≤ 16777216) : freshT xs h = .ok (.tup xs) h := by
  unfold freshT
  rw [if_pos (by rw [sizeLine_eq]; exact hz)]
end
/-! a comprehension whose parts change nothing -/
theorem comp_pure {s : Src} {h : Hd} {step : D → Hd → Res (Option D)} (ok : s.ok h) {f : D → Option D} : ∀ ds : List D, (∀ d ∈ ds, step d h = .ok (f d) h) → compL s step ds h = .ok (ds.filterMap f) h
  | [], _ => by unfold compL; rw [if_pos ok]; rfl
  | d :: ds, hs => by
    unfold compL
    rw [if_pos ok, hs d List.mem_cons_self, bind_ok, comp_pure ok ds fun x m => hs x (List.mem_cons_of_mem _ m), bind_ok]
    cases e : f d <;> simp [List.filterMap_cons, e]
/-! branches -/
@[simp] theorem ite_ok {α : Type} {p : Prop} [Decidable p] (a b : α) (h : Hd) : (if p then Res.ok a h else Res.ok b h) = Res.ok (if p then a else b) h := by split <;> rfl
@[simp] theorem ite_seq {p : Prop} [Decidable p] (x y : SR) (k : Tau → Hd → SR) : (if p then x else y).seq k = if p then x.seq k else y.seq k := by split <;> rfl
@[simp] theorem ite_fin {p : Prop} [Decidable p] (h : Hd) (x y : SR) : fin h (if p then x else y) = if p then fin h x else fin h y := by split <;> rfl
@[simp] theorem ite_turn {p : Prop} [Decidable p] (x y : SR) (k : Tau → Hd → SR) : (if p then x else y).turn k = if p then x.turn k else y.turn k := by split <;> rfl
/-! == of simple data -/
@[simp] theorem eqv_str (x y : List Nat) : D.eqv (.str x) (.str y) = (x == y) := by rw [D.eqv]
@[simp] theorem eqv_int (x y : Int) : D.eqv (.int x) (.int y) = (x == y) := by rw [D.eqv]
@[simp] theorem eqv_bl (x y : Bool) : D.eqv (.bl x) (.bl y) = (x == y) := by rw [D.eqv]
theorem has_nil (d : D) : D.has [] d = false := rfl
theorem has_str (x : List Nat) (xs : List D) (y : List Nat) : D.has (.str x :: xs) (.str y) = ((x == y) || D.has xs (.str y)) := by
  unfold D.has
  rw [List.any_cons, eqv_str]
/-! a call's end -/
theorem fin1_same {h : Hd} {d : D} (hd : d.lo h.length) : fin1 h d h = .ok d h := by
  unfold fin1
  rw [if_pos ⟨hd, fun j _ => .inl rfl⟩, List.take_length]
theorem fin1_app {h l : Hd} {d : D} (hd : d.lo h.length) : fin1 h d (h ++ l) = .ok d h := by
  unfold fin1
  rw [if_pos ⟨hd, fun j hj => .inl (List.getElem?_append_left hj)⟩, List.take_left]
theorem finX_app {h l : Hd} {k : Nat} {fs : List D} (hd : D.loA h.length fs) : finX h k fs (h ++ l) = .exn k fs h := by
  unfold finX
  rw [if_pos ⟨hd, fun j hj => .inl (List.getElem?_append_left hj)⟩, List.take_left]
theorem finX_same {h : Hd} {k : Nat} {fs : List D} (hd : D.loA h.length fs) : finX h k fs h = .exn k fs h := by
  unfold finX
  rw [if_pos ⟨hd, fun j _ => .inl rfl⟩, List.take_length]
@[simp] theorem fin_rt (h h' : Hd) (d : D) : fin h (.rt d h') = fin1 h d h' := rfl
@[simp] theorem fin_nx (h h' : Hd) (t : Tau) : fin h (.nx t h') = fin1 h .non h' := rfl
@[simp] theorem fin_exn (h h' : Hd) (t : Tau) (k : Nat) (fs : List D) : fin h (.exn k fs t h') = finX h k fs h' := rfl
@[simp] theorem lo_bl (n : Nat) (b : Bool) : (D.bl b).lo n := by unfold D.lo; trivial
@[simp] theorem lo_int (n : Nat) (b : Int) : (D.int b).lo n := by unfold D.lo; trivial
@[simp] theorem lo_str (n : Nat) (b : List Nat) : (D.str b).lo n := by unfold D.lo; trivial
@[simp] theorem lo_non (n : Nat) : (D.non).lo n := by unfold D.lo; trivial
@[simp] theorem lo_tup (n : Nat) (xs : List D) : (D.tup xs).lo n ↔ D.loA n xs := by rw [D.lo]
@[simp] theorem lo_lst (n : Nat) (xs : List D) : (D.lst xs).lo n ↔ D.loA n xs := by rw [D.lo]
@[simp] theorem lo_ref (n i : Nat) : (D.ref i).lo n ↔ i < n := by rw [D.lo]
@[simp] theorem loA_nil (n : Nat) : D.loA n [] := by unfold D.loA; trivial
@[simp] theorem loA_cons (n : Nat) (x : D) (xs : List D) : D.loA n (x :: xs) ↔ x.lo n ∧ D.loA n xs := by rw [D.loA]
mutual
theorem plain_lo {n : Nat} : ∀ {d : D}, d.plain = true → d.lo n
  | .non, _ => by unfold D.lo; trivial
  | .bl _, _ => by unfold D.lo; trivial
  | .int _, _ => by unfold D.lo; trivial
  | .str _, _ => by unfold D.lo; trivial
  | .tup xs, h => by unfold D.lo; exact plainA_lo (by unfold D.plain at h; exact h)
  | .lst xs, h => by unfold D.lo; exact plainA_lo (by unfold D.plain at h; exact h)
  | .scr xs, h => by unfold D.lo; exact plainA_lo (by unfold D.plain at h; exact h)
  | .ref i, h => by simp [D.plain] at h
  | .exc _ _ _ _, h => by simp [D.plain] at h
theorem plainA_lo {n : Nat} : ∀ {ds : List D}, D.plainA ds = true → D.loA n ds
  | [], _ => by unfold D.loA; trivial
  | x :: xs, h => by
    simp only [D.plainA, Bool.and_eq_true] at h
    unfold D.loA
    exact ⟨plain_lo h.1, plainA_lo h.2⟩
end
/-- the callee's level -/
theorem call_at {T : List FnD} {n j : Nat} {F : FnD} (h : T[j]? = some F) (ds : List D) (hd : Hd) : callN T (n + 1) j ds hd = runFn F (callN T n) ds hd := by
  show (match T[j]? with | some F => _ | none => _) = _
  rw [h]
end Ev

/-! Ev22: empty dicts, sorted of alike data. -/
namespace Ev
open PySem PySem.Spec PyProof.Rows L2 PySem.Calls
open PySem.W (Frag EachIs)
/-! ### the empty dict -/
def mDict0 : M := fun _ _ h => .ok (.ref h.length) (h ++ [.dict []])
section
variable {X : Cx} {CL : List XC} {W : WX} {c : Calls}
theorem g_dict0 {pos : Pos} : DE X CL W c (.Dict [] [] pos) mDict0 :=
  pimp pe_dnewK fun σ H Q ⟨r, t, h, Y, S, q⟩ p n => by
    refine q _ (r.add p) _ (Ext.push n) (Y.push n ⟨[], upd_same, .nil⟩) (.ref ?_)
    rw [← Y.len, List.getElem?_append_right (Nat.le_refl _)]; simp
/-- what a sorted value stands for -/
def Stands (K : Frag) (H : Hp) (r : Rho) (u : Value) (d : D) : Prop := ∃ v : V, RelV v u ∧ Rep K H r v d
theorem stands_of {K : Frag} {H : Hp} {r : Rho} : ∀ {vs : List V} {us : List Value} {ds : List D}, Vals vs us → RepA K H r vs ds → EachIs (Stands K H r) us ds
  | [], [], [], _, .nil => .nil
  | _ :: _, _ :: _, _ :: _, .cons h t, .cons k l => .cons ⟨_, h, k⟩ (stands_of t l)
theorem of_stands {K : Frag} {H : Hp} {r : Rho} : ∀ {us : List Value} {ds : List D}, EachIs (Stands K H r) us ds → ∃ vs, Vals vs us ∧ RepA K H r vs ds
  | _, _, .nil => ⟨[], .nil, .nil⟩
  | _, _, .cons ⟨v, h, k⟩ t => by
    obtain ⟨vs, h2, k2⟩ := of_stands t
    exact ⟨v :: vs, .cons h h2, .cons k k2⟩
theorem each_reads {K : Frag} {H : Hp} {r : Rho} {s : Shared} {X : Cx} {pins : List (Addr × Obj)} {σ : L2.St} (I : Inv X pins σ H s) (hK : K = X.K) : ∀ {vs : List V} {us : List Value} {ds : List D}, Vals vs us → RepA K H r vs ds → D.plainA ds = true → EachIs (fun u d => ∃ as, Reads s.heap u d.toP as) us ds
  | [], [], [], _, .nil, _ => .nil
  | _ :: _, _ :: _, _ :: _, .cons h t, .cons k l, p => by
    subst hK
    simp only [D.plainA, Bool.and_eq_true] at p
    exact .cons (Dp.reads I _ _ _ (k.dp p.1) h) (each_reads I rfl t l p.2)
end
end Ev

/-! Ev23: try with several clauses, each with a name or without. -/
namespace Ev
open PySem PySem.Spec PyProof.Rows L2 PySem.Calls
open PySem.W (Frag EachIs)
abbrev Sui := Addr → Value → Option Addr → TS
/-- how the named error's slot is emptied -/
abbrev Ends.un (D : Ends) (i : Nat) : Ends := { nx := fun σ' H' => D.nx (σ'.set i none) H', rt := D.rt, bk := fun σ' H' => D.bk (σ'.set i none) H', ct := fun σ' H' => D.ct (σ'.set i none) H' }
def wCl (K : Frag) (Wout : WX) (D : Ends) : List (Value × Option Nat × Sui) → WX
  | [] => Wout
  | (v, o, ts) :: r => fun cls d σ H => ∃ b, PySem.W.exmOne K cls v = some b ∧
      (b = true → ∀ a, H a = none → match o with
        | none => ts a cls d D σ H
        | some i => ts a cls d (Ends.un D i) (σ.set i (some (.ref a))) H) ∧
      (b = false → wCl K Wout D r cls d σ H)
abbrev SuiOk (X : Cx) (ss : List Stmt) (ts : Sui) : Prop := ∀ (a : Addr) (oe : Obj) (cls : Value) (d : Option Addr) (pn : List (Addr × Obj)), Zc cls d oe → (∃ vs, oe.data = .fields vs) → PSs (X.suite a ((a, oe) :: pn)) ss (ts a cls d)
inductive Cls (X : Cx) : List ExceptHandler → List (Value × Option Nat × Sui) → Prop
  | nil : Cls X [] []
  | bare {x : Str} {v : Value} {ts : Sui} {b₀ : Stmt} {ss : List Stmt} {p1 p2 : Pos} {hds : List ExceptHandler} {l : List (Value × Option Nat × Sui)} (nm : Names X x v) (ok : SuiOk X (b₀ :: ss) ts) (r : Cls X hds l) :
      Cls X (.ExceptHandler (some (.Name x p1)) none (b₀ :: ss) p2 :: hds) ((v, none, ts) :: l)
  | named {x n : Str} {i : Nat} {v : Value} {ts : Sui} {b₀ : Stmt} {ss : List Stmt} {p1 p2 : Pos} {hds : List ExceptHandler} {l : List (Value × Option Nat × Sui)} (nm : Names X x v) (hi : X.N[i]? = some n) (hln : X.env.kindOf n = some .local)
      (ok : SuiOk X (b₀ :: ss) ts) (r : Cls X hds l) : Cls X (.ExceptHandler (some (.Name x p1)) (some n) (b₀ :: ss) p2 :: hds) ((v, some i, ts) :: l)
section
variable {X : Cx}
theorem ps_tries {body : List Stmt} {h₀ : ExceptHandler} {hds : List ExceptHandler} {l : List (Value × Option Nat × Sui)} {pos : Pos} {tb : WX → TS} {Wout : WX} (stk : X.stack = X.env :: X.outer) (frm : X.env.frame = some X.env.locals) (ndp : X.N.Nodup) (tks : Takes X Wout)
    (bdy : ∀ (W : WX) (pn : List (Addr × Obj)) (xe : Value → Shared → Prop), Takes (X.tr pn xe) W → PassesOwn (model X.prog X.w) X.A X.env xe → PSs (X.tr pn xe) body (tb W))
    (cls_ : Cls X (h₀ :: hds) l) : PS X (.Try body (h₀ :: hds) [] [] pos) (fun D σ H => tb (wCl X.K Wout D l) D σ H) := by
  refine ⟨fun pins s σ H D inv0 want => ?_⟩
  have okI := inv0.ok
  have frs0 : X.A.frames = some (X.env :: X.outer) := by rw [okI.frames, stk]
  refine wpAny_Try_except ?_
  refine wpAny_mono ((bdy (wCl X.K Wout D l) (X.pn ++ pins) (fun e t1 => wpAny (model X.prog X.w) X.A (noteFrame e X.env) (fun _ t2 => wpAny (model X.prog X.w) X.A (setFlight e none) (fun _ t3 => wpAny (model X.prog X.w) X.A (handleBy e X.env (h₀ :: hds)) (SP X pins D) X.xe t3) X.xe t2) X.xe t1) (fun u t xx => ?_) PassesOwn.looking).run [] s σ H D (inv0.toTry _) want) (fun f t1 done => ?_) (fun e t1 he => he)
  · obtain ⟨a, B, sJ, pins2, σ2, H2, cl, dx, rfl, invB, nob, up1, sk, nota, osd, agr, wish⟩ := xx
    have invA : Inv X pins σ2 H2 sJ := invB.ofTry okI
    have sk2 : Sky B (X.env :: X.outer) a (Zc cl dx) X.env.locals t.heap := by rw [← stk]; exact sk
    show wpAny (model X.prog X.w) X.A (noteFrame (.ref a) X.env) _ _ _
    refine Sky.land Zc.steady frs0 frm sk2 fun g3 fly3 upg => ?_
    have invC : Inv X pins σ2 H2 { t with heap := g3 } := invA.landed nob fly3.1 (up1.trans upg) osd agr
    obtain ⟨ob3, vv3, get3, zc3, dat3⟩ := fly3.there
    have noFrame : a ∉ frs (X.env :: X.outer) := fun hm => by
      obtain ⟨_, o', e', hnf⟩ := (fly3.2.2.1).mem hm
      rw [get3] at e'; cases e'
      exact hnf _ dat3
    have noLoc : a ≠ X.env.locals := fun z => noFrame (List.mem_filterMap.mpr ⟨X.env, List.mem_cons_self, by rw [frm, z]⟩)
    have noFs : a ∉ X.fs := fun hm => by
      obtain ⟨e, he, q⟩ := List.mem_filterMap.mp hm
      exact noFrame (List.mem_filterMap.mpr ⟨e, List.mem_cons_of_mem _ he, q⟩)
    have invS := invC.suite get3 dat3 nota noLoc noFs
    have LT : PySem.W.Looks (model X.prog X.w) g3 (typeOf (.ref a)) cl := fun A Q E s k q => wpAny_typeOf_ref (k _ _ get3) (by rw [zc3.1]; exact q)
    have named : ∀ {x : Str} {v : Value} {p1 : Pos} {Q E : Value → Shared → Prop}, Names X x v → Q v { t with heap := g3 } → wpAny (model X.prog X.w) (X.A.mark (some (.ref a))) (eval (.Name x p1) X.env) Q E { t with heap := g3 } := fun nm q => by
      obtain ⟨hg, hdbg, hm | ⟨hm, hv, hnn⟩⟩ := nm
      · exact ld_glob (X := X.suite a ((a, ob3) :: (X.pn ++ pins))) invS hg hm q hdbg
      · exact ld_blt (X := X.suite a ((a, ob3) :: (X.pn ++ pins))) invS hg hm hv q hnn hdbg
    have walk : ∀ {hs2 : List ExceptHandler} {l2 : List (Value × Option Nat × Sui)}, Cls X hs2 l2 → wCl X.K Wout D l2 cl dx σ2 H2 → wpAny (model X.prog X.w) X.A (handleBy (.ref a) X.env hs2) (SP X pins D) X.xe { t with heap := g3 } := by
      intro hs2 l2 ck
      induction ck with
      | nil =>
        intro out
        refine wpAny_handleBy_nil ?_
        obtain ⟨_, _, _, o5, v5, T5, oT5, ts5, get5, zc5, dat5, first5, rest5⟩ := id fly3
        unfold PySem.passOn
        refine wpAny_bind (wpAny_field get5 dat5 first5 ?_)
        rw [if_neg (show ¬ ((Value.ref T5 == Value.none) = true) from by simp)]
        have gone : wpAny (model X.prog X.w) X.A (setFlight (.ref a) X.env.frame) (fun _ t4 => wpAny (model X.prog X.w) X.A (throw (.ref a) : Sem Flow) (SP X pins D) X.xe t4) X.xe { t with heap := g3 } := by
          rw [frm]
          refine HandSPX.setFlight_upZ fly3 fun g4 fly4 up4 => wpAny_throw (tks _ _ ?_)
          exact ⟨a, B, sJ, pins, σ2, H2, cl, dx, rfl, invA, nob, (up1.trans upg).trans up4, .inr (.inr (by rw [stk]; exact fly4)), nota, osd, agr, out⟩
        first
          | exact wpAny_bind (wpAny_pure (wpAny_bind gone))
          | exact wpAny_bind gone
      | @bare x v ts b₀ ss p1 p2 hs3 l3 nm sok r ih =>
        intro out
        obtain ⟨b, eb, yes, no⟩ := out
        refine wpAny_handleBy_cons (codeAny_handlers_test ?_) (by intro q; cases q)
        refine named nm ((PySem.W.exm_one (M := model X.prog X.w) invC.kIn LT eb).here ?_)
        cases b with
        | true =>
          refine codeAny_handlers_suite ?_
          refine HandSPX.lands_againZ fly3 fun g4 fly4 up4 => ?_
          have invD : Inv X pins σ2 H2 { t with heap := g4 } := invA.landed nob fly4.1 ((up1.trans upg).trans up4) osd agr
          obtain ⟨ob4, vv4, get4, zc4, dat4⟩ := fly4.there
          have invE := invD.suite get4 dat4 nota noLoc noFs
          refine wpAny_mono ((sok a ob4 cl dx (X.pn ++ pins) zc4 ⟨_, dat4⟩).run [] _ _ H2 _ invE (yes rfl a nota)) (fun f t6 fin_ => ?_) (fun _ _ z => False.elim z)
          cases f with
          | ret u => obtain ⟨v6, σ6, H6, S6, r6, q6⟩ := fin_; exact ⟨_, _, _, S6.unsuite okI, r6, q6⟩
          | next => obtain ⟨σ6, H6, S6, q6⟩ := fin_; exact ⟨_, _, S6.unsuite okI, q6⟩
          | brk => obtain ⟨σ6, H6, S6, q6⟩ := fin_; exact ⟨_, _, S6.unsuite okI, q6⟩
          | cont => obtain ⟨σ6, H6, S6, q6⟩ := fin_; exact ⟨_, _, S6.unsuite okI, q6⟩
        | false =>
          show wpAny _ X.A (handleBy (.ref a) X.env hs3) _ _ _
          exact ih (no rfl)
      | @named x n i v ts b₀ ss p1 p2 hs3 l3 nm hi hln sok r ih =>
        intro out
        obtain ⟨b, eb, yes, no⟩ := out
        refine wpAny_handleBy_cons (codeAny_handlers_test ?_) (by intro q; cases q)
        refine named nm ((PySem.W.exm_one (M := model X.prog X.w) invC.kIn LT eb).here ?_)
        cases b with
        | true =>
          refine codeAny_handlers_suite_as ?_
          refine HandSPX.lands_againZ fly3 fun g4 fly4 up4 => ?_
          have invD : Inv X pins σ2 H2 { t with heap := g4 } := invA.landed nob fly4.1 ((up1.trans upg).trans up4) osd agr
          obtain ⟨ob4, vv4, get4, zc4, dat4⟩ := fly4.there
          have invE := invD.suite get4 dat4 nota noLoc noFs
          have hloc : Loc X.env.scope n := .inl hln
          refine store_ok (X := X.suite a ((a, ob4) :: (X.pn ++ pins))) (v := .ref a) invE ndp hi hloc rfl (fun t5 invF => ?_) (.inr hln)
          refine wpAny_mono ((sok a ob4 cl dx (X.pn ++ pins) zc4 ⟨_, dat4⟩).run [] t5 _ H2 _ invF (yes rfl a nota)) (fun f t6 fin_ => ?_) (fun _ _ z => False.elim z)
          have wiped : ∀ {σ6 : L2.St} {H6 : Hp} {Q : Shared → Prop}, Inv (X.suite a ((a, ob4) :: (X.pn ++ pins))) [] σ6 H6 t6 → (∀ t7, Inv X pins (σ6.set i none) H6 t7 → Q t7) →
              wpAny (model X.prog X.w) X.A (do bindName X.env n .none; unbindBehindTheSuite X.env n p2) (fun _ t7 => Q t7) X.xe t6 := fun S6 hq => gone_ok (S6.unsuite okI) ndp hi hln hq
          cases f with
          | ret u => obtain ⟨v6, σ6, H6, S6, r6, q6⟩ := fin_; exact wiped S6 fun t7 J7 => ⟨_, _, _, J7, r6, q6⟩
          | next => obtain ⟨σ6, H6, S6, q6⟩ := fin_; exact wiped S6 fun t7 J7 => ⟨_, _, J7, q6⟩
          | brk => obtain ⟨σ6, H6, S6, q6⟩ := fin_; exact wiped S6 fun t7 J7 => ⟨_, _, J7, q6⟩
          | cont => obtain ⟨σ6, H6, S6, q6⟩ := fin_; exact wiped S6 fun t7 J7 => ⟨_, _, J7, q6⟩
        | false =>
          show wpAny _ X.A (handleBy (.ref a) X.env hs3) _ _ _
          exact ih (no rfl)
    exact walk cls_ wish
  · cases f with
    | ret u => obtain ⟨v, σ2, H2, J2, r, q⟩ := done; exact ⟨v, σ2, H2, J2.ofTry okI, r, q⟩
    | next => obtain ⟨σ2, H2, J2, q⟩ := done; exact wpAny_execs_nil ⟨σ2, H2, J2.ofTry okI, q⟩
    | brk => obtain ⟨σ2, H2, J2, q⟩ := done; exact ⟨σ2, H2, J2.ofTry okI, q⟩
    | cont => obtain ⟨σ2, H2, J2, q⟩ := done; exact ⟨σ2, H2, J2.ofTry okI, q⟩
end
/-! ### on data -/
structure Cl where
  cs : Nat → Option Bool
  nm : Option Nat
  ms : Addr → Option Addr → Nat → MS
noncomputable def onX (nmf : Nat → List Str) (c : Calls) : List Cl → Nat → List D → Tau → Hd → SR
  | [], k, fs, t, h => .exn k fs t h
  | cl :: r, k, fs, t, h => match cl.cs k with
    | none => .stuck
    | some false => onX nmf c r k fs t h
    | some true => match cl.nm with
      | none => (cl.ms 0 none k c t h).noX
      | some i => uni fun a dd => ((cl.ms a dd k c (t.set i (some (.exc a dd (nmf k) fs))) h).noX).wipe i
noncomputable def sTries (nmf : Nat → List Str) (body : MS) (l : List Cl) : MS := fun c t h => match body c t h with
  | .exn k fs t1 h1 => onX nmf c l k fs t1 h1
  | r => r
inductive DCls (X : Cx) (CL : List XC) (c : Calls) (nmf : Nat → List Str) : List ExceptHandler → List Cl → Prop
  | nil : DCls X CL c nmf [] []
  | bare {x : Str} {v : Value} {cs : Nat → Option Bool} {ms : MS} {b₀ : Stmt} {ss : List Stmt} {p1 p2 : Pos} {hds : List ExceptHandler} {l : List Cl} (nm : Names X x v)
      (hcs : ∀ k y b, CL[k]? = some y → cs k = some b → PySem.W.exmOne X.K (.ref y.addr) v = some b)
      (hsu : ∀ (a : Addr) (oe : Obj) (pn : List (Addr × Obj)), DSs (X.suite a ((a, oe) :: pn)) CL W0 c (b₀ :: ss) ms) (r : DCls X CL c nmf hds l) :
      DCls X CL c nmf (.ExceptHandler (some (.Name x p1)) none (b₀ :: ss) p2 :: hds) (⟨cs, none, fun _ _ _ => ms⟩ :: l)
  | named {x n : Str} {i : Nat} {v : Value} {cs : Nat → Option Bool} {ms : Addr → Option Addr → Nat → MS} {b₀ : Stmt} {ss : List Stmt} {p1 p2 : Pos} {hds : List ExceptHandler} {l : List Cl} (hi : X.N[i]? = some n) (hln : X.env.kindOf n = some .local) (nm : Names X x v)
      (hcs : ∀ k y b, CL[k]? = some y → cs k = some b → PySem.W.exmOne X.K (.ref y.addr) v = some b)
      (hsu : ∀ (a : Addr) (oe : Obj) (d : Option Addr) (pn : List (Addr × Obj)) (k : Nat) (y : XC), CL[k]? = some y → cs k = some true → Zc (.ref y.addr) d oe → (∃ vs, oe.data = .fields vs) → DSs (X.suite a ((a, oe) :: pn)) CL W0 c (b₀ :: ss) (ms a d k)) (r : DCls X CL c nmf hds l) :
      DCls X CL c nmf (.ExceptHandler (some (.Name x p1)) (some n) (b₀ :: ss) p2 :: hds) (⟨cs, some i, ms⟩ :: l)
section
variable {X : Cx} {CL : List XC} {W : WX} {c : Calls} {nmf : Nat → List Str}
theorem dcls_ok (hnm : ∀ k y, CL[k]? = some y → nmf k = y.fields) {hds : List ExceptHandler} {l : List Cl} (dc : DCls X CL c nmf hds l) :
    ∃ l' : List (Value × Option Nat × Sui), Cls X hds l' ∧ ∀ (E : Ends) (W : WX) (k : Nat) (fs : List D) (cls : Value) (dd : Option Addr) (σ : L2.St) (r : Rho) (t : Tau) (h : Hd) (H : Hp), R X.K r h H → Slots X.K H r σ t → ExR X.K CL H r k fs cls dd →
      rdS X.K CL W r H E (onX nmf c l k fs t h) → wCl X.K W E l' cls dd σ H := by
  induction dc with
  | nil => exact ⟨[], .nil, fun E W k fs cls dd σ r t h H Y S ex q => q cls dd σ r H (Ext.refl _ _) Y S ex⟩
  | @bare x v cs ms b₀ ss p1 p2 hds l nm hcs hsu r ih =>
    obtain ⟨l', ck, go⟩ := ih
    refine ⟨(v, none, fun _ _ _ => rs X.K CL W0 c ms) :: l', .bare nm (fun a oe cls d pn _ _ => hsu a oe pn) ck, fun E W k fs cls dd σ r t h H Y S ex q => ?_⟩
    obtain ⟨y, vs, hy, hcls, ra, hl, hd⟩ := id ex
    unfold onX at q
    cases hk : cs k with
    | none => simp only [hk] at q; exact q.elim
    | some b =>
      refine ⟨b, by rw [hcls]; exact hcs k y b hy hk, fun hb a _ => ?_, fun hb => ?_⟩
      · subst hb
        simp only [hk] at q
        exact ⟨r, t, h, Y, S, noX_rd q⟩
      · subst hb
        simp only [hk] at q
        exact go E W k fs cls dd σ r t h H Y S ex q
  | @named x n i v cs ms b₀ ss p1 p2 hds l hi hln nm hcs hsu r ih =>
    obtain ⟨l', ck, go⟩ := ih
    refine ⟨(v, some i, fun a cls d E σ H => ∃ k y, CL[k]? = some y ∧ cs k = some true ∧ cls = .ref y.addr ∧ rs X.K CL W0 c (ms a d k) E σ H) :: l',
      .named nm hi hln (fun a oe cls d pn hz hfd => ⟨fun pins s σ H D I ⟨k, y, hy, hk, hcl, q⟩ => (hsu a oe d pn k y hy hk (by rw [← hcl]; exact hz) hfd).run pins s σ H D I q⟩) ck, fun E W k fs cls dd σ r t h H Y S ex q => ?_⟩
    obtain ⟨y, vs, hy, hcls, ra, hl, hd⟩ := id ex
    unfold onX at q
    cases hk : cs k with
    | none => simp only [hk] at q; exact q.elim
    | some b =>
      refine ⟨b, by rw [hcls]; exact hcs k y b hy hk, fun hb a _ => ?_, fun hb => ?_⟩
      · subst hb
        simp only [hk] at q
        have hnm' := hnm k y hy
        have rx : Rep X.K H r (.ref a) (.exc a dd (nmf k) fs) := by
          refine .exc (vs := vs) ?_ (fun z => ?_) (by rw [hnm', ra.len, hl]) ra
          · rw [hnm']
            exact hd.imp id (fun z => z.1)
          · rcases hd with ⟨d, e, _⟩ | ⟨_, e⟩
            · rw [z] at e; cases e
            · exact e
        refine ⟨k, y, hy, hk, hcls, r, _, h, Y, S.set i rx, wipe_rd (W := W) ?_⟩
        have nst : uni (fun a dd => ((ms a dd k c (t.set i (some (.exc a dd (nmf k) fs))) h).noX).wipe i) ≠ .stuck := fun z => by rw [z] at q; exact q
        rw [uni_all nst a dd] at q
        cases e2 : ms a dd k c (t.set i (some (.exc a dd (nmf k) fs))) h with
        | exn _ _ _ _ => rw [e2] at q; exact q.elim
        | stuck => rw [e2] at q; exact q
        | nx _ _ => rw [e2] at q; exact q
        | rt _ _ => rw [e2] at q; exact q
        | bk _ _ => rw [e2] at q; exact q
        | ct _ _ => rw [e2] at q; exact q
      · subst hb
        simp only [hk] at q
        exact go E W k fs cls dd σ r t h H Y S ex q
theorem ds_tries {body : List Stmt} {mb : MS} {h₀ : ExceptHandler} {hds : List ExceptHandler} {l : List Cl} {pos : Pos} (hs : X.stack = X.env :: X.outer) (hf : X.env.frame = some X.env.locals) (hN : X.N.Nodup) (tk : Takes X W) (hnm : ∀ k y, CL[k]? = some y → nmf k = y.fields)
    (hb : ∀ (W : WX) (pn : List (Addr × Obj)) (xe : Value → Shared → Prop), Takes (X.tr pn xe) W → PassesOwn (model X.prog X.w) X.A X.env xe → DSs (X.tr pn xe) CL W c body mb)
    (dc : DCls X CL c nmf (h₀ :: hds) l) : DS X CL W c (.Try body (h₀ :: hds) [] [] pos) (sTries nmf mb l) := by
  obtain ⟨l', ck, go⟩ := dcls_ok hnm dc
  refine psimp (ps_tries (tb := fun W => rs X.K CL W c mb) hs hf hN tk hb ck) fun E σ H ⟨r, t, h, Y, S, q⟩ => ⟨r, t, h, Y, S, ?_⟩
  unfold sTries at q
  cases e : mb c t h with
  | nx t h => rw [e] at q; exact q
  | rt d h => rw [e] at q; exact q
  | bk t h => rw [e] at q; exact q
  | ct t h => rw [e] at q; exact q
  | stuck => rw [e] at q; exact q
  | exn k fs t1 h1 =>
    rw [e] at q
    intro cls dd σ' r' H' x' Y' S' ex
    exact go E W k fs cls dd σ' r' t1 h1 H' Y' S' ex (q.ext x')
end
end Ev

/-! Ev24: sorted of tuples that begin with texts, each two of which can be compared. -/
namespace Ev
open PySem PySem.Spec PyProof.Rows L2 PySem.Calls PySem.SeqAt
open PySem.W (Frag EachIs keyToks keyToksAll dataLt)
mutual
/-- x < y is told -/
def cmpb : PyData → PyData → Bool
  | .bool _, .bool _ => true
  | .int _, .int _ => true
  | .str _, .str _ => true
  | .tuple xs, .tuple ys => cmpbA xs ys
  | _, _ => false
def cmpbA : List PyData → List PyData → Bool
  | x :: xs, y :: ys => if PyData.eqv x y then cmpbA xs ys else cmpb x y
  | [], _ => true
  | _ :: _, [] => true
end
theorem cmpbA_cons {x y : PyData} {xs ys : List PyData} : cmpbA (x :: xs) (y :: ys) = if PyData.eqv x y then cmpbA xs ys else cmpb x y := by rw [cmpbA]
mutual
theorem eqv_toks : ∀ x y : PyData, PyData.eqv x y = true → keyToks x = keyToks y
  | .none, y, h => by cases y <;> simp [PyData.eqv] at h <;> simp [keyToks]
  | .bool a, y, h => by
    cases y <;> simp [PyData.eqv] at h
    · subst h; rfl
    · subst h; cases a <;> simp [keyToks]
  | .int a, y, h => by
    cases y <;> simp [PyData.eqv] at h
    · subst h
      rename_i b
      cases b <;> simp [keyToks]
    · subst h; rfl
  | .str a, y, h => by cases y <;> simp [PyData.eqv] at h; subst h; rfl
  | .list xs, y, h => by
    cases y <;> simp [PyData.eqv] at h
    simp only [keyToks]
    exact eqvA_toks _ _ h
  | .tuple xs, y, h => by
    cases y <;> simp [PyData.eqv] at h
    simp only [keyToks]
    exact eqvA_toks _ _ h
  | .dict xs, y, h => by cases y <;> simp [PyData.eqv] at h <;> simp [keyToks]
theorem eqvA_toks : ∀ xs ys : List PyData, PyData.eqvAll xs ys = true → keyToksAll xs = keyToksAll ys
  | [], [], _ => rfl
  | [], _ :: _, h => by simp [PyData.eqvAll] at h
  | _ :: _, [], h => by simp [PyData.eqvAll] at h
  | x :: xs, y :: ys, h => by
    rw [PySem.W.eqv_all_cons, Bool.and_eq_true] at h
    rw [PySem.W.toks_all_cons, PySem.W.toks_all_cons, eqv_toks x y h.1, eqvA_toks xs ys h.2]
end
mutual
/-- where two differ, the signs say so, whatever follows -/
theorem ne_toks : ∀ x y : PyData, cmpb x y = true → PyData.eqv x y = false → ∀ l m, lexLt itemOrd (keyToks x ++ l) (keyToks y ++ m) = lexLt itemOrd (keyToks x) (keyToks y)
  | .none, y, h, _, _, _ => by cases y <;> simp [cmpb] at h
  | .bool a, y, h, e, l, m => by
    cases y <;> simp [cmpb] at h
    rename_i b
    have hne : a ≠ b := fun q => by subst q; simp [PyData.eqv] at e
    simp only [keyToks, List.cons_append, List.nil_append]
    refine PySem.W.lex_atom (fun q => hne ?_) l m
    have q' := Sum.inl.inj q
    cases a <;> cases b <;> simp_all
  | .int a, y, h, e, l, m => by
    cases y <;> simp [cmpb] at h
    rename_i b
    have hne : a ≠ b := fun q => by subst q; simp [PyData.eqv] at e
    simp only [keyToks, List.cons_append, List.nil_append]
    exact PySem.W.lex_atom (fun q => hne (Sum.inl.inj q)) l m
  | .str a, y, h, e, l, m => by
    cases y <;> simp [cmpb] at h
    rename_i b
    have hne : a ≠ b := fun q => by subst q; simp [PyData.eqv] at e
    simp only [keyToks, List.cons_append, List.nil_append]
    exact PySem.W.lex_atom (fun q => hne (PySem.W.str_of_cps (Sum.inr.inj q))) l m
  | .list xs, y, h, _, _, _ => by cases y <;> simp [cmpb] at h
  | .tuple xs, y, h, e, l, m => by
    cases y <;> simp [cmpb] at h
    simp only [PyData.eqv] at e
    simp only [keyToks]
    exact neA_toks _ _ h e l m
  | .dict _, y, h, _, _, _ => by cases y <;> simp [cmpb] at h
theorem neA_toks : ∀ xs ys : List PyData, cmpbA xs ys = true → PyData.eqvAll xs ys = false → ∀ l m, lexLt itemOrd (keyToksAll xs ++ l) (keyToksAll ys ++ m) = lexLt itemOrd (keyToksAll xs) (keyToksAll ys)
  | [], [], _, e, _, _ => by simp [PyData.eqvAll] at e
  | [], y :: ys, _, _, l, m => by
    simp only [keyToksAll, List.cons_append, List.nil_append]
    exact (PySem.W.lex_atom (by simp) _ _).trans (PySem.W.lex_atom (by simp) _ _).symm
  | x :: xs, [], _, _, l, m => by
    simp only [keyToksAll, List.cons_append, List.nil_append]
    exact (PySem.W.lex_atom (by simp) _ _).trans (PySem.W.lex_atom (by simp) _ _).symm
  | x :: xs, y :: ys, h, e, l, m => by
    rw [PySem.W.eqv_all_cons] at e
    rw [cmpbA_cons] at h
    rw [PySem.W.toks_all_cons, PySem.W.toks_all_cons]
    simp only [List.cons_append, List.append_assoc]
    cases hx : PyData.eqv x y with
    | true =>
      rw [hx, Bool.true_and] at e
      rw [hx, if_pos rfl] at h
      rw [eqv_toks x y hx]
      have b2 := neA_toks xs ys h e l m
      exact (lex_self (O := itemOrd) _ _ _).trans ((PySem.W.lex_pre _ _ _).trans (b2.trans ((PySem.W.lex_pre _ _ _).symm.trans (lex_self (O := itemOrd) _ _ _).symm)))
    | false =>
      rw [hx, if_neg (by decide)] at h
      have a2 := ne_toks x y h hx
      exact (lex_self (O := itemOrd) _ _ _).trans ((a2 _ _).trans ((a2 _ _).symm.trans (lex_self (O := itemOrd) _ _ _).symm))
end
theorem all_yes {x y : PyData} {xs ys : List PyData} (e : PyData.eqv x y = true) : lexLt itemOrd (keyToksAll (x :: xs)) (keyToksAll (y :: ys)) = lexLt itemOrd (keyToksAll xs) (keyToksAll ys) := by
  rw [PySem.W.toks_all_cons, PySem.W.toks_all_cons, eqv_toks x y e]
  exact (lex_self (O := itemOrd) _ _ _).trans (PySem.W.lex_pre _ _ _)
theorem all_no {x y : PyData} {xs ys : List PyData} (h : cmpb x y = true) (e : PyData.eqv x y = false) : lexLt itemOrd (keyToksAll (x :: xs)) (keyToksAll (y :: ys)) = dataLt x y := by
  rw [PySem.W.toks_all_cons, PySem.W.toks_all_cons]
  exact (lex_self (O := itemOrd) _ _ _).trans (ne_toks x y h e _ _)
open PySem.W (firstLt_map KatLex kat_nil kat_cons kat_yes kat_no)
theorem first_toks : ∀ (xs ys : List PyData), cmpbA xs ys = true →
    firstLt (pairEq xs ys) (fun j => dataLt (xs.getD j .none) (ys.getD j .none)) (decide (xs.length < ys.length)) (List.range (min xs.length ys.length)) = lexLt itemOrd (keyToksAll xs) (keyToksAll ys)
  | [], [], _ => by simp [firstLt, keyToksAll, lex_irrefl]
  | [], y :: ys, _ => by
    rw [PySem.W.toks_all_cons]
    simp only [keyToksAll]
    rw [lex_diff (O := itemOrd) (by simp)]
    simp [firstLt, itemLt]
  | x :: xs, [], _ => by
    rw [PySem.W.toks_all_cons]
    simp only [keyToksAll]
    rw [lex_diff (O := itemOrd) (by simp)]
    simp [firstLt, itemLt]
  | x :: xs, y :: ys, h => by
    rw [cmpbA_cons] at h
    have em : min (x :: xs).length (y :: ys).length = min xs.length ys.length + 1 := by
      rw [List.length_cons, List.length_cons]; omega
    have ed : decide ((x :: xs).length < (y :: ys).length) = decide (xs.length < ys.length) := by
      rw [List.length_cons, List.length_cons]; exact decide_eq_decide.mpr (by omega)
    rw [em, ed, List.range_succ_eq_map]
    cases hx : PyData.eqv x y with
    | true =>
      rw [hx, if_pos rfl] at h
      rw [firstLt_yes (show pairEq (x :: xs) (y :: ys) 0 = true from hx), firstLt_map, all_yes hx, ← first_toks xs ys h]
      rfl
    | false =>
      rw [hx, if_neg (by decide)] at h
      rw [firstLt_no (show pairEq (x :: xs) (y :: ys) 0 = false from hx), all_no h hx]
      rfl
section
open AutoSeq1 (wpAny_loadPart')
open MeetsSeq MeetsSeq2 MeetsSeq3 SeqRoads2
-- as the kit's rule for tuples, but only the first place that differs must have an order
theorem tup_first (l b : Addr) (us ws : Array Value) (n1 n2 : Nat) (d1 d2 : Option Addr) (sl1 sl2 : Array (Option Value)) (e r : Nat → Bool) :
    Meets (Builtin.«tuple.__lt__» ⟨[.ref l, .ref b], []⟩)
      (fun A R s => s.heap.get? l = some { cls := .type "tuple", dict := d1, data := .seq us n1, slots := sl1 } ∧ s.heap.get? b = some { cls := .type "tuple", dict := d2, data := .seq ws n2, slots := sl2 } ∧
        (∀ j (h1 : j < us.size) (h2 : j < ws.size), EqAt A.in1 s us[j] ws[j] (e j)) ∧ (∀ j (h1 : j < us.size) (h2 : j < ws.size), (∀ m, m < j → e m = true) → e j = false → RcLt A.in1 s us[j] ws[j] (r j)) ∧
        R (.ok (.ret (.bool (firstLt e r (decide (us.size < ws.size)) (List.range (min us.size ws.size)))))) s) :=
  .of_wp fun prog w A R s h => by
    obtain ⟨hp, g, d, tk, os⟩ := s; obtain ⟨hl, hb, he, hr, h⟩ := h
    have f2 := AutoSeq1.sub_tuple_tuple
    have hZ : (us.toList.zip ws.toList).length = min us.size ws.size := by simp
    wp_walk using wpAny_loadPart' hl, wpAny_loadPart' hb, wpAny_forIn_list _ (fun rest b s' => b.1 = none ∧ s' = ⟨hp, g, d, tk, os⟩ ∧ ∃ i, rest = (us.toList.zip ws.toList).drop i ∧ (∀ m, m < i → e m = true) ∧
      R (.ok (.ret (.bool (firstLt e r (decide (us.size < ws.size)) ((List.range (min us.size ws.size)).drop i))))) ⟨hp, g, d, tk, os⟩) _
    case turn =>
      rintro ⟨y, x⟩ rest b s' ⟨hb', rfl, i, hz, all_, hR⟩
      have hlt : i < (us.toList.zip ws.toList).length := by
        rcases Nat.lt_or_ge i (us.toList.zip ws.toList).length with h' | h'
        · exact h'
        · rw [List.drop_of_length_le h'] at hz; cases hz
      have hm : i < min us.size ws.size := hZ ▸ hlt
      have h1 : i < us.size := Nat.lt_of_lt_of_le hm (Nat.min_le_left _ _)
      have h2 : i < ws.size := Nat.lt_of_lt_of_le hm (Nat.min_le_right _ _)
      rw [List.drop_eq_getElem_cons hlt] at hz
      injection hz with hyx hrest
      have hy : y = us[i] := by have := congrArg Prod.fst hyx; simpa using this
      have hx : x = ws[i] := by have := congrArg Prod.snd hyx; simpa using this
      subst hy hx
      have hd : (List.range (min us.size ws.size)).drop i = i :: (List.range (min us.size ws.size)).drop (i + 1) := by simp [List.drop_eq_getElem_cons, hm]
      rw [hd] at hR
      refine wpAny_bind (he i h1 h2 prog w _ _ ?_)
      cases hy : e i with
      | true =>
        rw [firstLt_yes hy] at hR
        wp_walk
        exact ⟨rfl, rfl, i + 1, hrest, fun m hm' => by rcases Nat.lt_succ_iff_lt_or_eq.mp hm' with q | rfl; exact all_ m q; exact hy, hR⟩
      | false =>
        rw [firstLt_no hy] at hR
        have hrr := hr i h1 h2 all_ hy prog w
        generalize richCompare CmpOp.Lt us[i] ws[i] = X at hrr ⊢
        wp_walk
        refine hrr _ _ ?_
        wp_walk
        exact ⟨_, rfl, hR⟩
    case fin =>
      rintro ⟨b1, b2⟩ s' ⟨hb', rfl, i, hz, _, hR⟩
      simp only at hb'
      subst hb'
      have hge : min us.size ws.size ≤ i := by
        rcases Nat.lt_or_ge i (us.toList.zip ws.toList).length with h' | h'
        · rw [List.drop_eq_getElem_cons h'] at hz; cases hz
        · exact hZ ▸ h'
      rw [List.drop_of_length_le (by simpa using hge)] at hR
      wp_walk
      exact ⟨_, rfl, by simpa [Builtin.Tuple.tupleCompareSizes, firstLt] using hR⟩
    case h =>
      exact ⟨rfl, rfl, 0, rfl, fun m hm => absurd hm (Nat.not_lt_zero _), by simpa using h⟩
theorem lt_tuples {A : Around} {s : Shared} {l b : Addr} {us ws : Array Value} {e r : Nat → Bool} (hl : s.heap.IsTuple l us) (hb : s.heap.IsTuple b ws) (hu : A.units < cLine) (he : ∀ j (h1 : j < us.size) (h2 : j < ws.size), EqAt A.in1 s us[j] ws[j] (e j))
    (hr : ∀ j (h1 : j < us.size) (h2 : j < ws.size), (∀ m, m < j → e m = true) → e j = false → RcLt A.in1 s us[j] ws[j] (r j)) : RcLt A s (.ref l) (.ref b) (firstLt e r (decide (us.size < ws.size)) (List.range (min us.size ws.size))) := fun prog w E Q h => by
  obtain ⟨⟨c1, d1, t1, sl1⟩, ho, hc, n1, hd⟩ := id hl
  obtain ⟨⟨c2, d2, t2, sl2⟩, ho2, hc2, n2, hd2⟩ := id hb
  simp only at hc hd hc2 hd2
  subst hc hd hc2 hd2
  exact richCompare_meets_room (op := .Lt) ⟨_, ho, rfl⟩ ⟨_, ho2, rfl⟩ F.slot_tuple_lt F.entry_tuple_lt (F.args_tuple_lt_2 _ _) (tup_first l b us ws n1 n2 d1 d2 sl1 sl2 e r)
    ⟨ho, ho2, he, hr, show Value.bool _ ≠ Value.notImplemented ∧ Q (.bool _) s from ⟨(fun x => nomatch x), h⟩⟩ hu
end
theorem first_at {xs ys : List PyData} (h : cmpbA xs ys = true) : ∀ j, j < xs.length → j < ys.length → (∀ m, m < j → pairEq xs ys m = true) → pairEq xs ys j = false → cmpb (xs.getD j .none) (ys.getD j .none) = true := by
  induction xs generalizing ys with
  | nil => intro j h1; simp at h1
  | cons x xs ih =>
    cases ys with
    | nil => intro j _ h2; simp at h2
    | cons y ys =>
      rw [cmpbA_cons] at h
      intro j h1 h2 all_ hj
      cases j with
      | zero =>
        have hx : PyData.eqv x y = false := hj
        rw [hx, if_neg (by decide)] at h
        exact h
      | succ j =>
        have hx : PyData.eqv x y = true := all_ 0 (Nat.succ_pos j)
        rw [hx, if_pos rfl] at h
        exact ih h j (by simpa using h1) (by simpa using h2) (fun m hm => all_ (m + 1) (Nat.succ_lt_succ hm)) hj
mutual
theorem rcLt_cmpb : ∀ (da db : PyData) (A : Around) (s : Shared) (a b : Value) (as bs : List Addr), Reads s.heap a da as → Reads s.heap b db bs → da.canLay0 = true → db.canLay0 = true → cmpb da db = true → A.units + min da.depth db.depth < cLine → RcLt A s a b (dataLt da db)
  | .none, db, _, _, _, _, _, _, _, _, _, _, h, _ => by cases db <;> simp [cmpb] at h
  | .dict _, db, _, _, _, _, _, _, _, _, _, _, h, _ => by cases db <;> simp [cmpb] at h
  | .list _, db, _, _, _, _, _, _, _, _, _, _, h, _ => by cases db <;> simp [cmpb] at h
  | .bool x, db, A, s, a, b, as, bs, ra, rb, _, _, h, _ => by
    cases db <;> simp [cmpb] at h
    cases ra; cases rb
    intro prog w E Q hq
    rw [PySem.W.dataLt_bool] at hq
    exact lt_bool hq
  | .int x, db, A, s, a, b, as, bs, ra, rb, _, _, h, _ => by
    cases db <;> simp [cmpb] at h
    cases ra; cases rb
    intro prog w E Q hq
    rw [PySem.W.dataLt_int] at hq
    exact P.lt_int hq
  | .str x, db, A, s, a, b, as, bs, ra, rb, _, _, h, _ => by
    cases db <;> simp [cmpb] at h
    cases ra; cases rb
    intro prog w E Q hq
    rw [PySem.W.dataLt_str] at hq
    exact P.lt_str hq
  | .tuple xs, db, A, s, a, b, as, bs, ra, rb, la, lb, h, hu => by
    cases db <;> simp [cmpb] at h
    rename_i ys
    have la' : PyData.canLayAll0 xs = true := by simpa [PyData.canLay0] using la
    have lb' : PyData.canLayAll0 ys = true := by simpa [PyData.canLay0] using lb
    cases ra with
    | @tuple l o vs n _ as₁ h1 h2 h3 h4 =>
      cases rb with
      | @tuple l' o' vs' n' _ bs₁ k1 k2 k3 k4 =>
        have n1 : vs.size = xs.length := by simpa using ReadsAll.length _ _ _ h4
        have n2 : vs'.size = ys.length := by simpa using ReadsAll.length _ _ _ k4
        rw [PySem.W.dataLt_tuple, ← first_toks xs ys h, ← n1, ← n2]
        refine lt_tuples ⟨_, h1, h2, _, h3⟩ ⟨_, k1, k2, _, k3⟩ (room_here hu) (fun j j1 j2 => ?_) fun j j1 j2 all_ hj => ?_
        · exact eqAt_readsAll xs ys A.in1 s vs.toList vs'.toList _ _ h4 k4 la' lb' (SeqAt.room_in hu) j (by simpa using j1) (by simpa using j2)
        · have hc := first_at h j (by omega) (by omega) all_ hj
          exact rcLt_cmpbA xs ys A.in1 s vs.toList vs'.toList _ _ h4 k4 la' lb' (SeqAt.room_in hu) j (by simpa using j1) (by simpa using j2) hc
theorem rcLt_cmpbA : ∀ (xs ys : List PyData) (A : Around) (s : Shared) (vs ws : List Value) (as bs : List Addr), ReadsAll s.heap vs xs as → ReadsAll s.heap ws ys bs → PyData.canLayAll0 xs = true → PyData.canLayAll0 ys = true →
    A.units + min (PyData.depthAll xs) (PyData.depthAll ys) < cLine → ∀ j (h1 : j < vs.length) (h2 : j < ws.length), cmpb (xs.getD j .none) (ys.getD j .none) = true → RcLt A s vs[j] ws[j] (dataLt (xs.getD j .none) (ys.getD j .none))
  | [], _, _, _, _, _, _, _, ra, _, _, _, _, j, h1, _, _ => by cases ra; exact absurd h1 (Nat.not_lt_zero _)
  | _ :: _, [], _, _, _, _, _, _, _, rb, _, _, _, j, _, h2, _ => by cases rb; exact absurd h2 (Nat.not_lt_zero _)
  | x :: xs, y :: ys, A, s, _, _, _, _, ra, rb, la, lb, hu, j, h1, h2, hc => by
    simp only [PyData.canLayAll0, Bool.and_eq_true] at la lb
    cases ra with
    | cons r rs =>
      cases rb with
      | cons r' rs' =>
        cases j with
        | zero => exact rcLt_cmpb x y A s _ _ _ _ r r' la.1 lb.1 hc (room_head hu)
        | succ j => exact rcLt_cmpbA xs ys A s _ _ _ _ rs rs' la.2 lb.2 (room_tail hu) j (Nat.lt_of_succ_lt_succ h1) (Nat.lt_of_succ_lt_succ h2) hc
end
/-! as sorting compares -/
section
variable {prog : Program} {w : World} {A : Around} {E : Value → Shared → Prop} {s : Shared}
theorem katLex_cmpb {fin : Bool} {Q : Bool → Shared → Prop} : ∀ (xs ys : List PyData) (i : Nat) (vs ws : List Value) (as bs : List Addr), ReadsAll s.heap vs xs as → ReadsAll s.heap ws ys bs → PyData.canLayAll0 xs = true → PyData.canLayAll0 ys = true → cmpbA xs ys = true →
    A.units + min (PyData.depthAll xs) (PyData.depthAll ys) < cLine → (i = 0 → ∃ p q r t, xs = .str p :: r ∧ ys = .str q :: t) → fin = decide (xs.length < ys.length) → Q (lexLt itemOrd (keyToksAll xs) (keyToksAll ys)) s → KatLex prog w A true fin Q (vs.zip ws) i s
  | [], [], i, _, _, _, _, ra, rb, _, _, _, _, _, hf, hq => by
    cases ra; cases rb
    have e : fin = false := by rw [hf]; rfl
    subst e
    rw [lex_irrefl] at hq
    exact kat_nil hq
  | [], y :: ys, i, _, _, _, _, ra, rb, _, _, _, _, _, hf, hq => by
    cases ra
    have e : fin = true := by rw [hf]; exact decide_eq_true (Nat.succ_pos _)
    subst e
    rw [PySem.W.toks_all_cons] at hq
    simp only [keyToksAll] at hq
    rw [lex_diff (O := itemOrd) (by simp)] at hq
    rw [List.zip_nil_left]
    exact kat_nil (by simpa [itemLt] using hq)
  | x :: xs, [], i, _, _, _, _, ra, rb, _, _, _, _, _, hf, hq => by
    cases rb
    have e : fin = false := by rw [hf]; exact decide_eq_false (Nat.not_lt_zero _)
    subst e
    rw [PySem.W.toks_all_cons] at hq
    simp only [keyToksAll] at hq
    rw [lex_diff (O := itemOrd) (by simp)] at hq
    rw [List.zip_nil_right]
    exact kat_nil (by simpa [itemLt] using hq)
  | x :: xs, y :: ys, i, _, _, _, _, ra, rb, la, lb, h, hu, h0, hf, hq => by
    simp only [PyData.canLayAll0, Bool.and_eq_true] at la lb
    rw [cmpbA_cons] at h
    have hf' : fin = decide (xs.length < ys.length) := by
      rw [hf]; simp only [List.length_cons, Nat.add_lt_add_iff_right]
    cases ra with
    | cons r rs =>
      cases rb with
      | cons r' rs' =>
        rw [List.zip_cons_cons]
        refine kat_cons (eqAt_reads x y A s _ _ _ _ r r' la.1 lb.1 (room_head hu) prog w _ _ ?_)
        cases hx : PyData.eqv x y with
        | true =>
          rw [hx, if_pos rfl] at h
          rw [all_yes hx] at hq
          exact kat_yes (katLex_cmpb xs ys (i + 1) _ _ _ _ rs rs' la.2 lb.2 h (room_tail hu) (fun hi => absurd hi (Nat.succ_ne_zero i)) hf' hq)
        | false =>
          rw [hx, if_neg (by decide)] at h
          rw [all_no h hx] at hq
          refine kat_no ?_
          by_cases hi : i = 0
          · obtain ⟨p, q, r1, t1, e1, e2⟩ := h0 hi
            cases e1; cases e2
            cases r; cases r'
            subst hi
            rw [PySem.W.dataLt_str] at hq
            exact oneLt_str hq
          · have hb : (true && i == 0) = false := by simp [hi]
            rw [hb, oneLt'_eq]
            simp only [Bool.false_eq_true, if_false]
            exact wpAny_bind (rcLt_cmpb x y A s _ _ _ _ r r' la.1 lb.1 h (room_head hu) prog w _ _ (wpAny_truthy_bool hq))
end
/-- sorting -/
def sortOk1 (xs : List D) : Prop := PySem.W.AllAlike (xs.map D.toP) ∧ PySem.W.Sortable (xs.map D.toP)
def sortOk2 (xs : List D) : Prop := (∀ x ∈ xs, ∀ y ∈ xs, cmpb x.toP y.toP = true) ∧ ∀ x ∈ xs, ∃ w r, x = .tup (.str w :: r)
def sortOk (xs : List D) : Prop := (D.plainA xs = true ∧ D.depA xs ≤ 400) ∧ (sortOk1 xs ∨ sortOk2 xs)
noncomputable def sortD (xs : List D) : List D := xs.mergeSort (PySem.W.dataLe false D.toP)
open Classical in
noncomputable def gSorted (m : Bool) : FB := fun ds h => match ds with
  | [d] => match seqOf h d with
    | some xs => if sortOk xs then fresh m (sortD xs) h else .stuck
    | none => .stuck
  | _ => .stuck
mutual
theorem toP_uniq {h : Heap} : ∀ (x y : D) (v : Value) (as bs : List Addr), x.plain = true → y.plain = true → Reads h v x.toP as → Reads h v y.toP bs → x.toP = y.toP
  | .ref _, _, _, _, _, p, _, _, _ => by simp [D.plain] at p
  | .exc _ _ _ _, _, _, _, _, p, _, _, _ => by simp [D.plain] at p
  | .non, y, _, _, _, _, q, r1, r2 => by
    cases y <;> simp [D.plain] at q <;> simp only [D.toP] at r1 r2 ⊢ <;> cases r1 <;> cases r2 <;> rfl
  | .bl b, y, _, _, _, _, q, r1, r2 => by
    cases y <;> simp [D.plain] at q <;> simp only [D.toP] at r1 r2 ⊢ <;> cases r1 <;> cases r2 <;> rfl
  | .int b, y, _, _, _, _, q, r1, r2 => by
    cases y <;> simp [D.plain] at q <;> simp only [D.toP] at r1 r2 ⊢ <;> cases r1 <;> cases r2 <;> rfl
  | .str b, y, _, _, _, _, q, r1, r2 => by
    cases y <;> simp [D.plain] at q <;> simp only [D.toP] at r1 r2 ⊢ <;> cases r1 <;> cases r2 <;> rfl
  | .tup xs, y, v, as, bs, p, q, r1, r2 => by
    cases y <;> simp [D.plain] at p q <;> simp only [D.toP] at r1 r2 ⊢ <;> try (cases r1 <;> cases r2 <;> done)
    · rename_i ys
      cases r1 with
      | tuple h1 h2 h3 h4 =>
        cases r2 with
        | tuple k1 k2 k3 k4 =>
          rw [h1] at k1; cases k1
          rw [h3] at k3; cases k3
          rw [toPA_uniq xs ys _ _ _ p q h4 k4]
    all_goals
      cases r1 with
      | tuple h1 h2 h3 h4 =>
        cases r2 with
        | list k1 k2 k3 k4 =>
          rw [h1] at k1; cases k1
          rw [h2] at k2
          exact absurd k2 (by decide)
  | .lst xs, y, v, as, bs, p, q, r1, r2 => by
    cases y <;> simp [D.plain] at p q <;> simp only [D.toP] at r1 r2 ⊢ <;> try (cases r1 <;> cases r2 <;> done)
    · rename_i ys
      cases r1 with
      | list h1 h2 h3 h4 =>
        cases r2 with
        | tuple k1 k2 k3 k4 =>
          rw [h1] at k1; cases k1
          rw [h2] at k2
          exact absurd k2 (by decide)
    all_goals
      rename_i ys
      cases r1 with
      | list h1 h2 h3 h4 =>
        cases r2 with
        | list k1 k2 k3 k4 =>
          rw [h1] at k1; cases k1
          rw [h3] at k3; cases k3
          rw [toPA_uniq xs ys _ _ _ p q h4 k4]
  | .scr xs, y, v, as, bs, p, q, r1, r2 => by
    cases y <;> simp [D.plain] at p q <;> simp only [D.toP] at r1 r2 ⊢ <;> try (cases r1 <;> cases r2 <;> done)
    · rename_i ys
      cases r1 with
      | list h1 h2 h3 h4 =>
        cases r2 with
        | tuple k1 k2 k3 k4 =>
          rw [h1] at k1; cases k1
          rw [h2] at k2
          exact absurd k2 (by decide)
    all_goals
      rename_i ys
      cases r1 with
      | list h1 h2 h3 h4 =>
        cases r2 with
        | list k1 k2 k3 k4 =>
          rw [h1] at k1; cases k1
          rw [h3] at k3; cases k3
          rw [toPA_uniq xs ys _ _ _ p q h4 k4]
theorem toPA_uniq {h : Heap} : ∀ (xs ys : List D) (vs : List Value) (as bs : List Addr), D.plainA xs = true → D.plainA ys = true → ReadsAll h vs (D.toPA xs) as → ReadsAll h vs (D.toPA ys) bs → D.toPA xs = D.toPA ys
  | [], [], _, _, _, _, _, _, _ => rfl
  | [], y :: ys, _, _, _, _, _, r1, r2 => by simp only [D.toPA] at r1 r2; cases r1; cases r2
  | x :: xs, [], _, _, _, _, _, r1, r2 => by simp only [D.toPA] at r1 r2; cases r2; cases r1
  | x :: xs, y :: ys, _, _, _, p, q, r1, r2 => by
    simp only [D.plainA, Bool.and_eq_true] at p q
    simp only [D.toPA] at r1 r2 ⊢
    cases r1 with
    | cons h1 h2 =>
      cases r2 with
      | cons k1 k2 => rw [toP_uniq x y _ _ _ p.1 q.1 h1 k1, toPA_uniq xs ys _ _ _ p.2 q.2 h2 k2]
end
section
variable {prog : Program} {w : World} {A : Around} {s : Shared}
theorem kind_some {h : Heap} {xs : List D} (p : D.plainA xs = true) {v : Value} {x : D} {as : List Addr} (hx : x ∈ xs) (r : Reads h v x.toP as) : (PySem.W.dataKind h (xs.map D.toP)).keyOf v = some (keyToks x.toP) := by
  have q : ∃ d, d ∈ xs.map D.toP ∧ ∃ as, Reads h v d as := ⟨x.toP, List.mem_map.mpr ⟨x, hx, rfl⟩, as, r⟩
  show (open Classical in if q : ∃ d, d ∈ xs.map D.toP ∧ ∃ as, Reads h v d as then some (keyToks q.choose) else none) = _
  rw [dif_pos q]
  obtain ⟨h1, as', h2⟩ := q.choose_spec
  obtain ⟨y, hy, ey⟩ := List.mem_map.mp h1
  rw [← ey] at h2 ⊢
  rw [toP_uniq x y v as as' (plainA_iff.mp p x hx) (plainA_iff.mp p y hy) r h2]
theorem sorts_cmp {vs : List Value} {xs : List D} (p : D.plainA xs = true) (lay : PyData.canLayAll0 (D.toPA xs) = true) (e : EachIs (fun v (d : D) => ∃ as, Reads s.heap v d.toP as) vs xs) (ok : sortOk2 xs) (hu : ∀ x ∈ xs, A.units + x.toP.depth < cLine) : PySem.W.SortsAt prog w A s (PySem.W.dataKind s.heap (xs.map D.toP)) vs := by
  obtain ⟨hc, ht⟩ := ok
  have layx : ∀ x ∈ xs, x.toP.canLay0 = true := by
    intro x hx
    have : ∀ (ds : List D), PyData.canLayAll0 (D.toPA ds) = true → ∀ d ∈ ds, d.toP.canLay0 = true := by
      intro ds
      induction ds with
      | nil => intro _ d hd; simp at hd
      | cons a l ih =>
        intro h d hd
        simp only [D.toPA, PyData.canLayAll0, Bool.and_eq_true] at h
        rcases List.mem_cons.mp hd with rfl | hd
        · exact h.1
        · exact ih h.2 d hd
    exact this xs lay x hx
  refine ⟨fun v hv => ?_, ?_⟩
  · obtain ⟨d, hd, as, r⟩ := e.left v hv
    exact ⟨_, kind_some p hd r⟩
  · refine ⟨tuples' true, ?_, fun h2 E Q hq => ?_⟩
    · intro E x y a b Q ha hb hq
      obtain ⟨d, as, hd, ra, rfl⟩ := PySem.W.dataKind_inv ha
      obtain ⟨d', as', hd', rb, rfl⟩ := PySem.W.dataKind_inv hb
      obtain ⟨x1, hx1, rfl⟩ := List.mem_map.mp hd
      obtain ⟨x2, hx2, rfl⟩ := List.mem_map.mp hd'
      have hcc := hc x1 hx1 x2 hx2
      have l1 := layx x1 hx1
      have l2 := layx x2 hx2
      have hroom : A.units + min x1.toP.depth x2.toP.depth < cLine := Nat.lt_of_le_of_lt (Nat.add_le_add_left (Nat.min_le_left _ _) _) (hu x1 hx1)
      obtain ⟨w1, r1, rfl⟩ := ht x1 hx1
      obtain ⟨w2, r2, rfl⟩ := ht x2 hx2
      simp only [D.toP, D.toPA] at ra rb hcc l1 l2 hroom hq
      have hq' : Q (dataLt (.tuple (.str ⟨w1.toArray⟩ :: D.toPA r1)) (.tuple (.str ⟨w2.toArray⟩ :: D.toPA r2))) s := hq
      rw [PySem.W.dataLt_tuple] at hq'
      have l1' : PyData.canLayAll0 (PyData.str ⟨w1.toArray⟩ :: D.toPA r1) = true := by simpa [PyData.canLay0] using l1
      have l2' : PyData.canLayAll0 (PyData.str ⟨w2.toArray⟩ :: D.toPA r2) = true := by simpa [PyData.canLay0] using l2
      cases ra with
      | @tuple l o xs1 n _ _ h1 h2 h3 h4 =>
        cases rb with
        | @tuple l' o' xs2 n' _ _ k1 k2 k3 k4 =>
          have n1 : xs1.size = (PyData.str ⟨w1.toArray⟩ :: D.toPA r1).length := by simpa using SeqAt.ReadsAll.length _ _ _ h4
          have n2 : xs2.size = (PyData.str ⟨w2.toArray⟩ :: D.toPA r2).length := by simpa using SeqAt.ReadsAll.length _ _ _ k4
          have hcc' : cmpbA (PyData.str ⟨w1.toArray⟩ :: D.toPA r1) (PyData.str ⟨w2.toArray⟩ :: D.toPA r2) = true := by simpa [cmpb] using hcc
          exact PySem.W.kat_lt h1 h3 k1 k3 (katLex_cmpb _ _ 0 _ _ _ _ h4 k4 l1' l2' hcc' (by have q := SeqAt.room_in hroom; omega) (fun _ => ⟨_, _, _, _, rfl, rfl⟩) (by rw [n1, n2]) hq')
    · have e' : EachIs (fun v d => ∃ as, Reads s.heap v d as) vs (xs.map D.toP) := PySem.W.each_map (R := fun v d => ∃ as, Reads s.heap v d as) D.toP e
      obtain ⟨fs, t1, t2, t3⟩ := PySem.W.each_katTups e' (fun d hd => by
        obtain ⟨x, hx, rfl⟩ := List.mem_map.mp hd
        obtain ⟨w1, r1, rfl⟩ := ht x hx
        exact ⟨.str ⟨w1.toArray⟩, D.toPA r1, by simp [D.toP, D.toPA]⟩)
      refine PySem.W.kat_kind (T := .type "str") t1 (by omega) (fun f hf => ?_) rfl hq
      obtain ⟨x, r, as, m1, m2⟩ := t3 f hf
      obtain ⟨y, hy, ey⟩ := List.mem_map.mp m1
      obtain ⟨w1, r1, rfl⟩ := ht y hy
      simp only [D.toP, D.toPA, PyData.tuple.injEq, List.cons.injEq] at ey
      rw [← ey.1] at m2
      exact PySem.W.looks_reads m2
theorem sorted_each {h : Heap} {R : Value → D → Prop} {vs : List Value} {xs : List D} (p : D.plainA xs = true) (e : EachIs R vs xs) (er : EachIs (fun v (d : D) => ∃ as, Reads h v d.toP as) vs xs) : EachIs R (PySem.W.sortVals (PySem.W.dataKind h (xs.map D.toP)) false vs vs) (sortD xs) :=
  PySem.W.sortVals_each (κ := PySem.W.dataKind h (xs.map D.toP)) (fun b => keyToks b.toP) e ((PySem.W.each_mem er).mono fun _ _ ⟨⟨_, r⟩, hd⟩ => kind_some p hd r)
end
section
variable {X : Cx} {CL : List XC} {W : WX} {c : Calls}
theorem vals_len {vs : List V} {us : List Value} (h : Vals vs us) : vs.length = us.length := h.length
theorem ca_sorted {m : Bool} (hu : X.A.units + 560 < cLine) : CaE X (.builtin "sorted") (gSorted m) := by
  intro pins s σ H xs us Q I rv ⟨r, h, ds, Y, ra, q⟩
  unfold gSorted at q
  split at q
  · rename_i d
    obtain ⟨v, rfl, rp⟩ := one_of ra
    split at q
    · rename_i ys e
      by_cases ok : sortOk ys
      rotate_left
      · rw [if_neg ok] at q; exact q.elim
      rw [if_pos ok] at q
      obtain ⟨⟨p1, p4⟩, p2⟩ := ok
      obtain ⟨a, vs, rfl, k, sq⟩ := seq_rep Y rp e
      have there : ∃ (its : List Value) (o : Obj) (T : String) (n : Nat), Vals vs its ∧ s.heap.get? a = some o ∧ o.cls = .type T ∧ (T = "list" ∨ T = "tuple") ∧ o.data = .seq its.toArray n := by
        rcases sq with sq | sq
        · obtain ⟨its, rvs, hl, _⟩ := I.list sq
          obtain ⟨o, ho, hc, n, hd⟩ := hl.isList
          exact ⟨its, o, "list", n, rvs, ho, hc, .inl rfl, hd⟩
        · obtain ⟨its, rvs, ht, _⟩ := I.tuple sq.seq
          obtain ⟨o, ho, hc, n, hd⟩ := ht
          exact ⟨its, o, "tuple", n, rvs, ho, hc, .inr rfl, hd⟩
      obtain ⟨its, o, T, n, rvs, ho, hc, hT, hd⟩ := there
      have hz := fresh_len q
      have hz1 : its.length ≤ sizeLine := by
        have e1 := rvs.length
        have e2 := k.len
        unfold sortD at hz
        rw [List.length_mergeSort] at hz
        omega
      rw [Vals.ref1 rv]
      have es := stands_of rvs k
      refine PySem.Calls.call_function_entry kind_sorted plain_sorted entry_sorted (args_sorted1 _) ?_
      unfold Builtin.«sorted»
      refine wpAny_bind (m := checkCount "sorted" 1 1 _) (wpAny_pure ?_)
      refine wpAny_bind (wpAny_collect_seq a hT ho hc hd (fun h1 k1 => ?_) (by rw [List.size_toArray]; exact hz1))
      have I1 : Inv X pins σ H { s with heap := h1 } := I.kept (t' := s.toks) k1
      have eL : its.toArray.toList = its := by simp
      rw [eL]
      have er := each_reads I1 rfl rvs k p1
      refine wpAny_bind (wpAny_newList ?_ hz1)
      have hp : (h1.push (seqObj "list" its.toArray 0)).get? h1.objs.size = some (seqObj "list" its.toArray 0) := Heap.get?_push_size _ rfl
      have old1 : ∀ b u, h1.get? b = some u → (h1.push (seqObj "list" its.toArray 0)).get? b = some u := fun b u hb => Heap.get?_push_of_some _ hb
      have old2 : ∀ b u, h1.get? b = some u → (PySem.W.sortingHeap (h1.push (seqObj "list" its.toArray 0)) h1.objs.size its).get? b = some u := fun b u hb => PySem.W.sortingHeap_old (Nat.ne_of_lt (Heap.lt_size hb)) (old1 b u hb)
      have er2 : EachIs (fun u d => ∃ as, Reads (PySem.W.sortingHeap (h1.push (seqObj "list" its.toArray 0)) h1.objs.size its) u d.toP as) its ys := er.mono fun _ _ ⟨as, rr⟩ => ⟨as, PyProof.Rows.Reads.keeps old2 rr⟩
      refine wpAny_bind (wpAny_holding (wpAny_call_entry slot_list_sort ⟨_, hp, rfl⟩ entry_list_sort (PySem.W.list_sort_vals (κ := PySem.W.dataKind (PySem.W.sortingHeap (h1.push (seqObj "list" its.toArray 0)) h1.objs.size its) (ys.map D.toP)) hp ?S hz1 ⟨.none, rfl, ?_⟩) (args_list_sort _)))
      case S =>
        have dep : ∀ b ∈ ys, X.A.in1.in1.units + b.toP.depth < cLine := fun b hb => by
          have hdep : b.dep ≤ D.depA ys := by
            obtain ⟨j, hj, rfl⟩ := List.mem_iff_getElem.mp hb
            exact depA_get ys hj
          rw [toP_dep]
          show X.A.units + 1 + 1 + _ < _
          omega
        rcases p2 with ⟨q1, q2⟩ | q
        · refine PySem.W.SortsAt.data (PySem.W.each_map (R := fun v d => ∃ as, Reads _ v d as) D.toP er2) q1 q2 fun d hd => ?_
          obtain ⟨b, hb, rfl⟩ := List.mem_map.mp hd
          exact dep b hb
        · exact sorts_cmp (s := { s with heap := PySem.W.sortingHeap (h1.push (seqObj "list" its.toArray 0)) h1.objs.size its }) p1 k.lay er2 q dep
      have hsz : (PySem.W.sortVals (PySem.W.dataKind (PySem.W.sortingHeap (h1.push (seqObj "list" its.toArray 0)) h1.objs.size its) (ys.map D.toP)) false its its).length = its.length := PySem.W.sortVals_length false rfl
      have so := sorted_each p1 es er2
      generalize hout : PySem.W.sortVals (PySem.W.dataKind (PySem.W.sortingHeap (h1.push (seqObj "list" its.toArray 0)) h1.objs.size its) (ys.map D.toP)) false its its = out at so hsz
      obtain ⟨vo, rvo, ko⟩ := of_stands so
      obtain ⟨ep, he'⟩ := sortedHeap_at (vs := its) (out := out.toArray) hp
      have hzo : vo.length ≤ sizeLine := by rw [rvo.length, hsz]; exact hz1
      have keep : ∀ b u, h1.get? b = some u → (sortedHeap (h1.push (seqObj "list" its.toArray 0)) h1.objs.size its out.toArray).get? b = some u := fun b u hb => by
        rw [sortedHeap_old (Nat.ne_of_lt (Heap.lt_size hb)) (Heap.lt_size (old1 b u hb))]
        exact old1 b u hb
      refine wpAny_pure ⟨_, rfl, .ref h1.objs.size, upd H h1.objs.size (.lst vo), I1.laid (t' := s.toks) keep (Nat.le_refl _) ⟨hzo, out, ep, rvo, he'⟩, rfl, ?_⟩
      exact new_shut Y ko q (I1.hok.fresh (Nat.le_refl _))
    · exact q.elim
  · exact q.elim
theorem calmB_sorted {m : Bool} : CalmB (gSorted m) := by
  intro ds h c fs h'
  unfold gSorted
  split
  · split
    · split
      · exact fresh_calm
      · intro z; cases z
    · intro z; cases z
  · intro z; cases z
theorem g_sorted {e : Expr} {es : List Expr} {l : ML} {m : Bool} {p pos : Pos} (hm : X.mg "sorted" = none) (hu : X.A.units + 560 < cLine) (ha : DA X CL W c (e :: es) l) (hg : Gl X "sorted" := by rfl) (he : starEach (e :: es) X.env = (false, eval e X.env) :: starEach es X.env := by rfl) (hpl : (backTo pos (starEach es X.env)).any (·.1) = false := by rfl) :
    DE X CL W c (.Call (.Name "sorted" p) (e :: es) [] pos) (mB (gSorted m) l) := de_bif calmB_sorted (ca_sorted hu) hg hm (by first | rfl | kernel_rfl) ha (by decide) (by decide) he hpl
end
/-! sorted texts, sorted ints -/
theorem alike_str (x y : Str) : PySem.W.alike (.str x) (.str y) = true := by simp [PySem.W.alike]
theorem alike_int (x y : Int) : PySem.W.alike (.int x) (.int y) = true := by simp [PySem.W.alike]
theorem plain_strs : ∀ ss : List (List Nat), D.plainA (ss.map D.str) = true
  | [] => rfl
  | _ :: ss => by simp [D.plainA, D.plain, plain_strs ss]
theorem dep_strs : ∀ ss : List (List Nat), D.depA (ss.map D.str) = 0
  | [] => rfl
  | _ :: ss => by simp [D.depA, D.dep, dep_strs ss]
theorem plain_ints : ∀ ss : List Int, D.plainA (ss.map D.int) = true
  | [] => rfl
  | _ :: ss => by simp [D.plainA, D.plain, plain_ints ss]
theorem dep_ints : ∀ ss : List Int, D.depA (ss.map D.int) = 0
  | [] => rfl
  | _ :: ss => by simp [D.depA, D.dep, dep_ints ss]
theorem sortOk_strs (ss : List (List Nat)) : sortOk (ss.map D.str) := by
  refine ⟨⟨plain_strs ss, by rw [dep_strs]; omega⟩, .inl ⟨?_, .inr ?_⟩⟩
  · intro d hd d' hd'
    simp only [List.mem_map] at hd hd'
    obtain ⟨_, ⟨x, _, rfl⟩, rfl⟩ := hd
    obtain ⟨_, ⟨y, _, rfl⟩, rfl⟩ := hd'
    simp only [D.toP, alike_str]
  · intro d hd
    simp only [List.mem_map] at hd
    obtain ⟨_, ⟨x, _, rfl⟩, rfl⟩ := hd
    exact ⟨by simp [D.toP], fun xs => by simp [D.toP]⟩
theorem sortOk_ints (ss : List Int) : sortOk (ss.map D.int) := by
  refine ⟨⟨plain_ints ss, by rw [dep_ints]; omega⟩, .inl ⟨?_, .inr ?_⟩⟩
  · intro d hd d' hd'
    simp only [List.mem_map] at hd hd'
    obtain ⟨_, ⟨x, _, rfl⟩, rfl⟩ := hd
    obtain ⟨_, ⟨y, _, rfl⟩, rfl⟩ := hd'
    simp only [D.toP, alike_int]
  · intro d hd
    simp only [List.mem_map] at hd
    obtain ⟨_, ⟨x, _, rfl⟩, rfl⟩ := hd
    exact ⟨by simp [D.toP], fun xs => by simp [D.toP]⟩
def sortS (ss : List (List Nat)) : List (List Nat) := ss.mergeSort fun a b => decide (a ≤ b)
def sortI (ss : List Int) : List Int := ss.mergeSort fun a b => decide (a ≤ b)
theorem sortD_strs (ss : List (List Nat)) : sortD (ss.map D.str) = (sortS ss).map D.str := by
  unfold sortD sortS
  rw [List.map_mergeSort]
  intro a _ b _
  have := congrFun (congrFun (PySem.W.dataLe_str (β := List Nat) fun s => ⟨s.toArray⟩) a) b
  simp only [PySem.W.dataLe_eq] at this ⊢
  simp only [D.toP]
  rw [this]
theorem sortD_ints (ss : List Int) : sortD (ss.map D.int) = (sortI ss).map D.int := by
  unfold sortD sortI
  rw [List.map_mergeSort]
  intro a _ b _
  have := congrFun (congrFun (PySem.W.dataLe_int (β := Int) fun s => s) a) b
  simp only [PySem.W.dataLe_eq] at this ⊢
  simp only [D.toP]
  rw [this]
theorem gSorted_strs {m : Bool} {d : D} {h : Hd} {ss : List (List Nat)} (e : seqOf h d = some (ss.map D.str)) : gSorted m [d] h = fresh m ((sortS ss).map D.str) h := by
  unfold gSorted
  simp only [e]
  rw [if_pos (sortOk_strs ss), sortD_strs]
theorem gSorted_ints {m : Bool} {d : D} {h : Hd} {ss : List Int} (e : seqOf h d = some (ss.map D.int)) : gSorted m [d] h = fresh m ((sortI ss).map D.int) h := by
  unfold gSorted
  simp only [e]
  rw [if_pos (sortOk_ints ss), sortD_ints]
end Ev

/-! Ev25: loops by what holds at each turn. -/
namespace Ev
open PySem L2
/-- how a turn may end -/
inductive Turn (I : Tau → Hd → Prop) (O : SR → Prop) : SR → Prop
  | nx {t : Tau} {h : Hd} : I t h → Turn I O (.nx t h)
  | ct {t : Tau} {h : Hd} : I t h → Turn I O (.ct t h)
  | bk {t : Tau} {h : Hd} : O (.nx t h) → Turn I O (.bk t h)
  | rt {d : D} {h : Hd} : O (.rt d h) → Turn I O (.rt d h)
  | exn {k : Nat} {fs : List D} {t : Tau} {h : Hd} : O (.exn k fs t h) → Turn I O (.exn k fs t h)
theorem forL_gen {s : Src} {step : D → Tau → Hd → SR} {I : List D → Tau → Hd → Prop} {O : SR → Prop} (hs : ∀ d ds t h, I (d :: ds) t h → s.ok h ∧ Turn (I ds) O (step d t h)) (he : ∀ t h, I [] t h → s.ok h ∧ O (.nx t h)) :
    ∀ ds t h, I ds t h → O (forL s step ds t h)
  | [], t, h, i => by
    obtain ⟨a, b⟩ := he t h i
    unfold forL
    rw [if_pos a]
    exact b
  | d :: ds, t, h, i => by
    obtain ⟨a, b⟩ := hs d ds t h i
    unfold forL
    rw [if_pos a]
    generalize step d t h = x at b
    cases b with
    | nx q => exact forL_gen hs he ds _ _ q
    | ct q => exact forL_gen hs he ds _ _ q
    | bk q => exact q
    | rt q => exact q
    | exn q => exact q
theorem sFor_gen {it : MI} {g : Tg} {b : MS} {c : Calls} {t : Tau} {h h1 : Hd} {s : Src} {I : List D → Tau → Hd → Prop} {O : SR → Prop} (hi : it c t h = .ok s h1)
    (hs : ∀ d ds t h, I (d :: ds) t h → s.ok h ∧ ∃ t1, asg g d t = some t1 ∧ Turn (I ds) O (b c t1 h)) (he : ∀ t h, I [] t h → s.ok h ∧ O (.nx t h)) (h0 : I s.items t h1) : O (sFor it g b c t h) := by
  unfold sFor
  rw [hi, toS_ok]
  refine forL_gen (I := I) (fun d ds t h i => ?_) he _ _ _ h0
  obtain ⟨a, t1, e, q⟩ := hs d ds t h i
  refine ⟨a, ?_⟩
  simp only [e]
  exact q
theorem whileL_gen {k : MB} {b : MS} {c : Calls} {I : Nat → Tau → Hd → Prop} {O : SR → Prop} (hs : ∀ n t h, I n t h → (k c t h = .ok false h ∧ O (.nx t h)) ∨ (k c t h = .ok true h ∧ Turn (fun t' h' => ∃ m, m < n ∧ I m t' h') O (b c t h))) :
    ∀ n N t h, n < N → I n t h → O (whileL k b c N t h) := by
  intro n
  induction n using Nat.strongRecOn with
  | ind n ih =>
    intro N t h hN i
    obtain ⟨N, rfl⟩ : ∃ M, N = M + 1 := ⟨N - 1, by omega⟩
    unfold whileL
    rcases hs n t h i with ⟨e, o⟩ | ⟨e, q⟩
    · rw [e, toS_ok, if_neg (by decide)]
      exact o
    · rw [e, toS_ok, if_pos rfl]
      generalize b c t h = x at q
      cases q with
      | nx q => obtain ⟨m, hm, i'⟩ := q; exact ih m hm N _ _ (by omega) i'
      | ct q => obtain ⟨m, hm, i'⟩ := q; exact ih m hm N _ _ (by omega) i'
      | bk q => exact q
      | rt q => exact q
      | exn q => exact q
theorem sWhile_gen {k : MB} {b : MS} {c : Calls} {t : Tau} {h : Hd} {I : Nat → Tau → Hd → Prop} {O : SR → Prop} (hs : ∀ n t h, I n t h → (k c t h = .ok false h ∧ O (.nx t h)) ∨ (k c t h = .ok true h ∧ Turn (fun t' h' => ∃ m, m < n ∧ I m t' h') O (b c t h)))
    (n : Nat) (hn : n < 1000000000) (h0 : I n t h) : O (sWhile k b c t h) := whileL_gen hs n bigN t h hn h0
/-- a comprehension, by what holds at each item -/
theorem compL_gen {s : Src} {step : D → Hd → Res (Option D)} {I : List D → List D → Hd → Prop} (hs : ∀ d ds os h, I (d :: ds) os h → s.ok h ∧ ∃ o h', step d h = .ok o h' ∧ I ds (os ++ o.toList) h') (he : ∀ os h, I [] os h → s.ok h) :
    ∀ ds os h, I ds os h → ∃ xs h', compL s step ds h = .ok xs h' ∧ I [] (os ++ xs) h'
  | [], os, h, i => by
    refine ⟨[], h, ?_, by rw [List.append_nil]; exact i⟩
    unfold compL
    rw [if_pos (he os h i)]
  | d :: ds, os, h, i => by
    obtain ⟨a, o, h', e, i'⟩ := hs d ds os h i
    obtain ⟨xs, h2, e2, i2⟩ := compL_gen hs he ds _ _ i'
    refine ⟨o.toList ++ xs, h2, ?_, by rw [← List.append_assoc]; exact i2⟩
    unfold compL
    rw [if_pos a, e, bind_ok, e2, bind_ok]
theorem runFn_go {F : FnD} {c : Calls} {ds : List D} {h : Hd} (hl : ds.length = F.np) : runFn F c ds h = fin h (F.body c (ds.map some ++ List.replicate (F.nn - F.np) none) h) := if_pos hl
theorem runFn_at {np nn : Nat} {b : MS} {c : Calls} {ds : List D} {h : Hd} (hl : ds.length = np) {t : Tau} (ht : ds.map some ++ List.replicate (nn - np) none = t) : runFn ⟨np, nn, b⟩ c ds h = fin h (b c t h) := by
  subst ht
  exact runFn_go hl
theorem lvl {n k : Nat} (h : k ≤ n) : ∃ m, n = m + k := ⟨n - k, by omega⟩
theorem dRng1_ok {j : Int} (h : Hd) (h1 : -1000000000 ≤ j) (h2 : j < 1000000000) : dRng1 (.int j) h = .ok ⟨rngD 0 j.toNat, none⟩ h := by
  have e2 : -4611686018427387904 ≤ j := by omega
  have e3 : j < 4611686018427387904 := by omega
  simp [dRng1, e2, e3]
theorem rng_none {xs : List D} {h : Hd} : (Src.mk xs none).ok h := trivial
theorem rngD_eq (k : Nat) : rngD 0 k = (List.range k).map fun (k : Nat) => D.int (k : Int) := by
  rw [rngD]; simp
theorem plainA_ap {xs ys : List D} : D.plainA (xs ++ ys) = (D.plainA xs && D.plainA ys) := by
  induction xs with
  | nil => simp [D.plainA]
  | cons x xs ih => simp [D.plainA, ih, Bool.and_assoc]
@[simp] theorem get_last (b : Hd) (x : O) : (b ++ [x])[b.length]? = some x := by simp
@[simp] theorem set_last (b : Hd) (x y : O) : (b ++ [x]).set b.length y = b ++ [y] := by
  rw [List.set_append_right _ _ (Nat.le_refl _)]; simp
theorem set_self {h : Hd} {L : Nat} {o : O} (e : h[L]? = some o) : h.set L o = h := by
  apply List.ext_getElem?
  intro j
  by_cases q : j = L
  · subst q; rw [List.getElem?_set_self (List.getElem?_eq_some_iff.mp e).1, e]
  · rw [List.getElem?_set_ne (Ne.symm q)]
theorem eqv_lst (xs ys : List D) : D.eqv (.lst xs) (.lst ys) = D.eqvA xs ys := by rw [D.eqv]
theorem eqv_tup (xs ys : List D) : D.eqv (.tup xs) (.tup ys) = D.eqvA xs ys := by rw [D.eqv]
theorem eqvA_cons (x y : D) (xs ys : List D) : D.eqvA (x :: xs) (y :: ys) = (D.eqv x y && D.eqvA xs ys) := by rw [D.eqvA]
theorem eqvA_nil : D.eqvA [] [] = true := by rw [D.eqvA]
theorem eqvA_nc (y : D) (ys : List D) : D.eqvA [] (y :: ys) = false := by rw [D.eqvA] <;> simp
theorem eqvA_cn (y : D) (ys : List D) : D.eqvA (y :: ys) [] = false := by rw [D.eqvA] <;> simp
/-- appending to the open list at L, popping from it -/
theorem append_at {c : Calls} {t : Tau} {h H : Hd} {m : M} {i L : Nat} {xs ys : List D} {d : D} (ti : t[i]? = some (some (.ref L))) (ek : h[L]? = some (.lst ys)) (em : m c t h = .ok d H) (e : H[L]? = some (.lst xs)) (hz : xs.length < 16777216) : sExpr (mMt kAppend (mVar i) (aCons m aNil)) c t h = .nx t (H.set L (.lst (xs ++ [d]))) := by
  have hz1 : xs.length < sizeLine := by rw [sizeLine_eq]; exact hz
  simp [ti, kindOf, ek, kAppend, em, fAppend, D.open?, e, hz1]
theorem pop_at {c : Calls} {t : Tau} {h : Hd} {i L : Nat} {ys : List D} {y : D} (ti : t[i]? = some (some (.ref L))) (e : h[L]? = some (.lst (ys ++ [y]))) : mMt kPop (mVar i) aNil c t h = .ok y (h.set L (.lst ys)) := by
  simp [ti, kindOf, e, kPop, fPop, D.open?]
end Ev

/-! Ev26: d[k] = v, d a dict with ints and texts as keys. -/
namespace Ev
open PySem PySem.Spec PyProof.Rows L2 PySem.Calls
open PySem.W (Frag)
def dPut (o i v : D) (h : Hd) : Res Unit := match o with
  | .ref a => match h[a]? with
    | some (.dict es) => if keyOk i = true ∧ es.length < 16777216 then .ok () (h.set a (.dict (putD es i v))) else .stuck
    | _ => .stuck
  | _ => .stuck
def sPut (o i m : M) : MS := fun c t h => (m c t h).toS t fun v h1 => (o c t h1).toS t fun x h2 => (i c t h2).toS t fun y h3 => (dPut x y v h3).toS t fun _ h4 => .nx t h4
@[simp] theorem sPut_ev {c : Calls} {t : Tau} {h : Hd} (o i m : M) : sPut o i m c t h = (m c t h).toS t fun v h1 => (o c t h1).toS t fun x h2 => (i c t h2).toS t fun y h3 => (dPut x y v h3).toS t fun _ h4 => .nx t h4 := rfl
section
variable {X : Cx} {CL : List XC} {W : WX} {c : Calls} {o i e : Expr} {mo mi me : M} {pos pt : Pos}
theorem s_put (hu : X.A.units + 560 < cLine) (ho : DE X CL W c o mo) (hi : DE X CL W c i mi) (he : DE X CL W c e me) (hs : swapsWithSole [.Subscript o i pt] e pos.line X.env = pure false := by rfl) (hw : swappedStores [.Subscript o i pt] e X.env = pure none := by rfl)
    (h1 : (assignEach [.Subscript o i pt] X.env).map (·.2) = [assign (.Subscript o i pt) X.env] := by rfl)
    (ha : ∀ v, assign (.Subscript o i pt) X.env v = (do
      let ov ← holding [v] (eval o X.env)
      let iv ← holding [v, ov] (eval i X.env)
      standAt pt
      holding [v, ov, iv] (setItem ov iv v)
      release [v, ov, iv] []) := by intro _; rfl) : DS X CL W c (.Assign [.Subscript o i pt] e pos) (sPut mo mi me) :=
  psimp (ps_asg he (pg_sub ho hi (set_dict (by omega)) ha) hs hw h1) fun E σ H ⟨r, t, h, Y, S, q⟩ => (rs_bind Y S q).mono fun v H1 ⟨r1, h1, d, e1, Y1, S1, rv, q1⟩ => (rs_bind Y1 S1 q1).mono fun x H2 ⟨r2, h2, dx, e2, Y2, S2, rx, q2⟩ => (rs_bind Y2 S2 q2).mono fun y H3 ⟨r3, h3, dy, e3, Y3, S3, ry, q3⟩ => by
    unfold dPut at q3
    split at q3
    · rename_i j _
      split at q3
      · rename_i es ej
        by_cases hk : keyOk dy = true ∧ es.length < 16777216
        · rw [if_pos hk] at q3
          have rx3 := rx.mono e3
          cases rx3 with
          | ref f =>
            obtain ⟨o', h4, h5⟩ := Y3.get _ _ f
            rw [ej] at h4; cases h4
            obtain ⟨kvs, h6, h7⟩ := h5
            have rv3 := (rv.mono e2).mono e3
            obtain ⟨k, rfl, rfl, ok⟩ := key_rep ry hk.1
            have lz : kvs.length < sizeLine := by rw [sizeLine_eq, repK_len h7]; exact hk.2
            have x4 : Ext r3 H3 r3 (upd H3 _ (.dK (putK kvs k v))) := Ext.wrote Y3 (List.mem_iff_getElem?.mpr ⟨j, f⟩)
            have Y4 := Y3.wrote f (o := .dict (putD es (KeyD k) d)) ⟨putK kvs k v, upd_same, (put_rep ok rv3 h7).mono x4⟩
            exact ⟨_, _, rfl, DPut.k h6 lz, rdS.nx (rdS.ext x4 q3) Y4 (S3.mono x4)⟩
          | dead f =>
            have := Y3.dead _ f
            rw [ej] at this; cases this
        · rw [if_neg hk] at q3
          exact q3.elim
      · exact q3.elim
    · exact q3.elim
end
/-! what a dict tells -/
theorem getD_put (es : List (D × D)) (i j : Int) (v : D) : getD (putD es (.int i) v) (.int j) = if i = j then some v else getD es (.int j) := by
  have key : ∀ (es : List (D × D)), getD (es.map fun p => if D.eqv p.1 (.int i) = true then (p.1, v) else p) (.int j) = if i = j then (if (es.any fun p => D.eqv p.1 (.int i)) = true then some v else none) else getD es (.int j) := by
    intro es
    induction es with
    | nil => simp [getD]
    | cons p es ih =>
      unfold getD at ih ⊢
      rw [List.map_cons, List.find?_cons, List.find?_cons, List.any_cons]
      by_cases h1 : D.eqv p.1 (.int i) = true
      · simp only [h1, if_true, Bool.true_or]
        by_cases h2 : i = j
        · subst h2; simp [h1]
        · have h3 : D.eqv p.1 (.int j) = false := by
            cases hp : p.1 with
            | int a => rw [hp] at h1; simp at h1; subst h1; simp [h2]
            | bl a =>
              rw [hp] at h1
              simp only [D.eqv, beq_iff_eq] at h1
              simp only [D.eqv, beq_eq_false_iff_ne]
              omega
            | _ => rw [hp] at h1; simp [D.eqv] at h1
          simp only [h3, h2, if_false] at ih ⊢
          exact ih
      · have h1' : D.eqv p.1 (.int i) = false := by simpa using h1
        simp only [h1', Bool.false_eq_true, if_false, Bool.false_or]
        cases h3 : D.eqv p.1 (.int j) with
        | true =>
          have : i ≠ j := by rintro rfl; rw [h1'] at h3; cases h3
          simp [this]
        | false => exact ih
  unfold putD
  by_cases h : (es.any fun p => D.eqv p.1 (.int i)) = true
  · rw [if_pos h, key, h]; simp
  · rw [if_neg h]
    unfold getD
    rw [List.find?_append]
    by_cases h2 : i = j
    · subst h2
      have : es.find? (fun p => D.eqv p.1 (.int i)) = none := by
        rw [List.find?_eq_none]
        intro p hp hq
        exact h (List.any_eq_true.mpr ⟨p, hp, hq⟩)
      rw [this]
      simp
    · simp [h2]
theorem putD_len (es : List (D × D)) (k v : D) : (putD es k v).length ≤ es.length + 1 := by
  unfold putD
  split <;> simp
end Ev

/-! Ev27: a dict of one written entry. -/
namespace Ev
open PySem PySem.Spec PyProof.Rows L2 PySem.Calls
open PySem.W (Frag)
def dOne (p : Nat) (k v : D) (h : Hd) : Res D := match h[p]? with
  | some (.dict []) => if keyOk k then .ok (.ref p) (h.set p (.dict [(k, v)])) else .stuck
  | _ => .stuck
/-- {k: v}: the dict stands empty while its entry is made -/
def mDict1 (mk mv : M) : M := fun c t h => (mk c t (h ++ [.dict []])).bind fun k h1 => (mv c t h1).bind fun v h2 => dOne h.length k v h2
@[simp] theorem mDict1_ev {c : Calls} {t : Tau} {h : Hd} (mk mv : M) : mDict1 mk mv c t h = (mk c t (h ++ [.dict []])).bind fun k h1 => (mv c t h1).bind fun v h2 => dOne h.length k v h2 := rfl
section
variable {X : Cx} {CL : List XC} {W : WX} {c : Calls} {ek ev : Expr} {mk mv : M} {pos : Pos}
theorem g_dict1 (hk : DE X CL W c ek mk) (hv : DE X CL W c ev mv) : DE X CL W c (.Dict [some ek] [ev] pos) (mDict1 mk mv) :=
  pimp (pe_disp (pps_cons hk hv pps_nil) rfl rfl (by simp) (by simp)) fun σ H Q ⟨r, t, h, Y, S, q⟩ p n => by
    have x0 : Ext r H (r.add p) (upd H p (.dK [])) := Ext.push n
    have Y0 : R X.K (r.add p) (h ++ [.dict []]) (upd H p (.dK [])) := Y.push n ⟨[], upd_same, .nil⟩
    have ip : (r.add p).l[h.length]? = some (some p) := by
      rw [← Y.len]
      show (r.l ++ [some p])[r.l.length]? = _
      simp
    refine (rd_bind Y0 (S.mono x0) (q.ext x0)).mono fun x H1 ⟨r1, h1, dk, e1, Y1, S1, rx, q1⟩ => (rd_bind Y1 S1 q1).mono fun y H2 ⟨r2, h2, dv, e2, Y2, S2, ry, q2⟩ => ?_
    unfold dOne at q2
    split at q2
    · rename_i eh
      by_cases hc : keyOk dk = true
      · rw [if_pos hc] at q2
        have rp : Rep X.K (upd H p (.dK [])) (r.add p) (.ref p) (.ref h.length) := .ref ip
        have rp2 := (rp.mono e1).mono e2
        cases rp2 with
        | ref f =>
          obtain ⟨o', h4, h5⟩ := Y2.get _ _ f
          rw [eh] at h4; cases h4
          obtain ⟨kvs, h6, h7⟩ := h5
          cases h7
          obtain ⟨k, rfl, rfl, ok⟩ := key_rep (rx.mono e2) hc
          have x4 : Ext r2 H2 r2 (upd H2 p (.dK [(k, y)])) := Ext.wrote Y2 (List.mem_iff_getElem?.mpr ⟨h.length, f⟩)
          have Y4 := Y2.wrote f (o := .dict [(KeyD k, dv)]) ⟨[(k, y)], upd_same, .cons ok (ry.mono x4) .nil⟩
          refine ⟨h6, [(k, y)], rfl, by simp, ?_⟩
          exact q2 (.ref p) r2 _ x4 Y4 (.ref f)
        | dead f =>
          have := Y2.dead _ f
          rw [eh] at this; cases this
      · rw [if_neg hc] at q2
        exact q2.elim
    · exact q2.elim
end
end Ev

/-! Ev28: dict comprehensions, keys ints and texts. -/
namespace Ev
open PySem PySem.Spec PyProof.Rows L2 PySem.Calls
open PySem.W (Frag)
open Classical in
noncomputable def compD (s : Src) (step : D → Hd → Res (Option (D × D))) : List D → List (D × D) → Hd → Res (List (D × D))
  | [], es, h => if s.ok h then .ok es h else .stuck
  | d :: ds, es, h => if s.ok h then (step d h).bind fun o h1 => match o with
      | none => compD s step ds es h1
      | some kv => if keyOk kv.1 = true ∧ es.length < 16777216 then compD s step ds (putD es kv.1 kv.2) h1 else .stuck
    else .stuck
def stepD (c : Calls) (t : Tau) (g : Tg) (k : MB) (ek ev : M) (d : D) (h : Hd) : Res (Option (D × D)) :=
  match asg g d t with
  | some t' => noX ((k c t' h).bind fun z h1 => if z then (ek c t' h1).bind fun x h2 => (ev c t' h2).bind fun y h3 => .ok (some (x, y)) h3 else .ok none h1)
  | none => .stuck
noncomputable def mDComp (it : MI) (g : Tg) (own : List Nat) (k : MB) (ek ev : M) : M := fun c t h =>
  (it c t h).bind fun s h1 => (compD s (stepD c (wipeT t own) g k ek ev) s.items [] h1).bind fun es h2 => Res.ok (D.ref (List.length h2)) (h2 ++ [O.dict es])
section
variable {X : Cx} {CL : List XC} {W : WX} {c : Calls}
theorem dcomp_core {σ : L2.St} {H1 : Hp} {Q : VK} {J : It} {r1 : Rho} {h1 : Hd} {t : Tau} {s : Src} {g : Tg} {vs : List Nat} {mk : MB} {ek ev : M} (Y1 : R X.K r1 h1 H1) (S1 : Slots X.K H1 r1 σ t) (rI : relI X.K H1 r1 J s) (ho : ∀ i ∈ g.own, i ∈ vs)
    (q1 : rdK X.K CL W (relD X.K) r1 H1 σ Q ((compD s (stepD c (wipeT t vs) g mk ek ev) s.items [] h1).bind fun es h2 => Res.ok (D.ref (List.length h2)) (h2 ++ [O.dict es]))) (p : Addr) (np : H1 p = none) :
    ∃ W' : Nat → Nat → Hp → Prop, (∃ m, W' 0 m (upd H1 p (.dK []))) ∧ ∀ i m H, W' i m H → (J.stop i H ∧ Q (.ref p) H) ∨ (J.go i H ∧ ∃ Nx : Hp → Prop, (∀ H', Nx H' → ∃ m', m' < m ∧ W' (i + 1) m' H') ∧ ∀ x H', J.yld i H x H' →
      TGD X.K g x (wipe σ vs) H' fun σ2 H2 => wipe σ2 vs = wipe σ vs ∧ rd X.K CL W0 relB c mk σ2 H2 fun b H3 =>
        if b = true then rd X.K CL W0 (relD X.K) c ek σ2 H3 fun y H4 => rd X.K CL W0 (relD X.K) c ev σ2 H4 fun z H5 => ∃ kvs k, y = kV k ∧ H5 p = some (.dK kvs) ∧ kvs.length < sizeLine ∧ Nx (upd H5 p (.dK (putK kvs k z))) else Nx H3) := by
  obtain ⟨G, g0, walk, st, sf⟩ := rI
  refine ⟨fun i m H => m = s.items.length - i ∧ i ≤ s.items.length ∧ ∃ r h acc us, R X.K r h H ∧ (r.hid = p :: r1.hid ∧ Ext r1 H1 ⟨r.l, r1.hid⟩ H) ∧ Slots X.K H r σ t ∧ G r H ∧ H p = some (.dK us) ∧ RepK X.K H r us acc ∧
      rdK X.K CL W (relD X.K) r1 H1 σ Q ((compD s (stepD c (wipeT t vs) g mk ek ev) (s.items.drop i) acc h).bind fun es h2 => Res.ok (D.ref (List.length h2)) (h2 ++ [O.dict es])), ⟨_, rfl, Nat.zero_le _, r1.hide p, h1, [], [], Y1.hide np, ⟨rfl, Ext.laid np⟩, S1.shift (Shift.hide np), sf _ _ _ _ g0 (Shift.hide np), upd_same, .nil, q1⟩, ?_⟩
  rintro i m H ⟨rfl, hi, r, h, acc, us, Y, ⟨hr, x⟩, S, hG, hp, ra, q⟩
  have hid : p ∈ r.hid := by rw [hr]; exact List.mem_cons_self
  have pn : some p ∉ r.l := (Y.hid p hid).2
  have np' : ¬ (⟨r.l, r1.hid⟩ : Rho).has p := fun z => by
    rcases z with z | z
    · exact pn z
    · exact (Y1.hid p z).1 np
  have ms : ∀ a ∈ r1.hid, a ∈ r.hid := fun a m => by rw [hr]; exact List.mem_cons_of_mem _ m
  by_cases hl : i < s.items.length
  · rw [List.drop_eq_getElem_cons hl] at q
    unfold compD at q
    by_cases ok : s.ok h
    · rw [if_pos ok] at q
      obtain ⟨go, yl⟩ := (walk i r h H Y hG ok).1 _ (List.getElem?_eq_getElem hl)
      refine .inr ⟨go, _, fun H' n => ⟨s.items.length - (i + 1), by omega, rfl, hl, n⟩, fun z H' y => ?_⟩
      obtain ⟨rfl, rx⟩ := yl z H' y
      unfold stepD at q
      cases e : asg g s.items[i] (wipeT t vs) with
      | none => simp only [e] at q; exact q.elim
      | some t' =>
        simp only [e] at q
        refine ⟨r, wipeT t vs, h, _, t', Y, S.wipe vs, rx, e, fun σ2 S2 bt => ⟨wipe_but bt ho, r, t', h, Y, S2, ?_⟩⟩
        have okn : ∀ {r3 : Rho} {h3 : Hd} {acc' : List (D × D)}, rdK X.K CL W (relD X.K) r1 H1 σ Q ((compD s (stepD c (wipeT t vs) g mk ek ev) (s.items.drop (i + 1)) acc' h3).bind fun es h2 => Res.ok (D.ref (List.length h2)) (h2 ++ [O.dict es])) → s.ok h3 := fun {r3 h3 acc'} q3 => by
          cases hd : s.items.drop (i + 1) with
          | nil =>
            rw [hd] at q3
            unfold compD at q3
            by_cases ok2 : s.ok h3
            · exact ok2
            · rw [if_neg ok2] at q3; exact q3.elim
          | cons d ds =>
            rw [hd] at q3
            unfold compD at q3
            by_cases ok2 : s.ok h3
            · exact ok2
            · rw [if_neg ok2] at q3; exact q3.elim
        cases e1 : mk c t' h with
        | exn a b c => rw [e1] at q; exact q.elim
        | stuck => rw [e1] at q; exact q.elim
        | ok z h3 =>
          rw [e1] at q
          intro v r3 H3 x3 Y3 rv
          have rv : v = z := rv
          subst rv
          have hid3 : p ∈ r3.hid := by rw [x3.hid]; exact hid
          cases v with
          | false =>
            have q : rdK X.K CL W (relD X.K) r1 H1 σ Q ((compD s (stepD c (wipeT t vs) g mk ek ev) (s.items.drop (i + 1)) acc h3).bind fun es h2 => Res.ok (D.ref (List.length h2)) (h2 ++ [O.dict es])) := q
            refine ⟨r3, h3, acc, us, Y3, ⟨x3.hid.trans hr, ?_⟩, S.mono x3, st r _ r3 h3 H3 hG x3 Y3 (okn (r3 := r3) q), x3.hkeep p _ hid hp, ra.mono x3, q⟩
            have z := Ext.through (u := .dK us) np x hr x3
            have e : upd H3 p (.dK us) = H3 := by
              funext a
              by_cases ea : a = p
              · subst ea; rw [upd_same]; exact (x3.hkeep _ _ hid hp).symm
              · rw [upd_ne ea]
            rw [e] at z
            exact z
          | true =>
            refine ⟨r3, t', h3, Y3, S2.mono x3, ?_⟩
            cases e2 : ek c t' h3 with
            | exn a b c =>
              simp only [Res.bind, if_true, e2] at q
              exact q.elim
            | stuck =>
              simp only [Res.bind, if_true, e2] at q
              exact q.elim
            | ok y h4 =>
              intro v r4 H4 x4 Y4 rv
              have x34 := x3.trans x4
              refine ⟨r4, t', h4, Y4, S2.mono x34, ?_⟩
              cases e3 : ev c t' h4 with
              | exn a b c =>
                simp only [Res.bind, if_true, e2, e3] at q
                exact q.elim
              | stuck =>
                simp only [Res.bind, if_true, e2, e3] at q
                exact q.elim
              | ok y2 h5 =>
                intro v2 r5 H5 x5 Y5 rv2
                have x35 := x34.trans x5
                have hid5 : p ∈ r5.hid := by rw [x35.hid]; exact hid
                have hp5 := x35.hkeep p _ hid hp
                have q : rdK X.K CL W (relD X.K) r1 H1 σ Q ((if keyOk y = true ∧ acc.length < 16777216 then compD s (stepD c (wipeT t vs) g mk ek ev) (s.items.drop (i + 1)) (putD acc y y2) h5 else .stuck).bind fun es h2 => Res.ok (D.ref (List.length h2)) (h2 ++ [O.dict es])) := by
                  simp only [Res.bind, if_true, e2, e3, noX] at q ⊢
                  exact q
                by_cases hk : keyOk y = true ∧ acc.length < 16777216
                · rw [if_pos hk] at q
                  obtain ⟨k, rfl, rfl, ok3⟩ := key_rep (rv.mono x5) hk.1
                  have hlen : us.length < sizeLine := by rw [repK_len ra, sizeLine_eq]; exact hk.2
                  refine ⟨us, k, rfl, hp5, hlen, r5, h5, putD acc (KeyD k) y2, putK us k v2, Y5.side hid5, ⟨x35.hid.trans hr, Ext.through np x hr x35⟩, (S.mono x35).shift (Shift.wrote hid5), sf _ _ _ _ (st r _ r5 h5 H5 hG x35 Y5 (okn (r3 := r5) q)) (Shift.wrote hid5), upd_same, ?_, q⟩
                  exact (put_rep ok3 rv2 (ra.mono x35)).shift (Shift.wrote hid5)
                · rw [if_neg hk] at q
                  exact q.elim
    · rw [if_neg ok] at q; exact q.elim
  · have hd : s.items.drop i = [] := List.drop_eq_nil_of_le (by omega)
    rw [hd] at q
    unfold compD at q
    by_cases ok : s.ok h
    · rw [if_pos ok] at q
      refine .inl ⟨(walk i r h H Y hG ok).2 (by omega), ?_⟩
      have xu := x
      have sh : Shift r H (Rho.add ⟨r.l, r1.hid⟩ p) H := Shift.out hid ms
      refine q _ (Rho.add ⟨r.l, r1.hid⟩ p) H (xu.out np) (Y.adopt (r0 := ⟨r.l, r1.hid⟩) pn rfl (fun a m => ⟨ms a m, fun e => (Y1.hid a m).1 (by rw [e]; exact np)⟩) (fun a o ho => ho.shift sh rfl) ⟨us, hp, ra.shift sh⟩) (.ref ?_)
      show (r.l ++ [some p])[h.length]? = _
      rw [← Y.len, List.getElem?_append_right (Nat.le_refl _)]; simp
    · rw [if_neg ok] at q; exact q.elim
theorem g_dcomp {kx vx tg iter : Expr} {ifs : List Expr} {scope : Scope} (own : List (Str × Nat)) {pos : Pos} {mi : MI} {g : Tg} {mk : MB} {ek ev : M} (hc : X.calm = true) (hN : X.N.Nodup) (hi : DI X CL W c tg iter mi)
    (hg : BlkP X scope fun X' => DG X' tg g) (hk : BlkP X scope fun X' => PTs X' ifs (rd X.K CL W0 relB c mk)) (hke : BlkP X scope fun X' => DE X' CL W0 c kx ek) (he : BlkP X scope fun X' => DE X' CL W0 c vx ev) (ok : blkC X.N X.env.scope scope own = true := by first | rfl | kernel_rfl) (ho : ∀ i ∈ g.own, i ∈ own.map (·.2) := by decide) (hs : ∀ x, foldedSetIterable iter X.env x = pure x := by intro _; rfl) :
    DE X CL W c (.DictComp kx vx [⟨tg, iter, ifs, 0⟩] scope pos) (mDComp mi g (own.map (·.2)) mk ek ev) :=
  pimp (pe_dc (g := TGD X.K g) (tt := rd X.K CL W0 relB c mk) (tk := rd X.K CL W0 (relD X.K) c ek) (tv := rd X.K CL W0 (relD X.K) c ev) hc hN hi (blkOk_by ok) hg hk hke he hs) fun σ H Q ⟨r, t, h, Y, S, q⟩ => (rd_bind (rel1 := relI X.K) Y S q).mono fun J H1 ⟨r1, h1, s, e1, Y1, S1, rI, q1⟩ => fun p np =>
    dcomp_core Y1 S1 rI ho q1 p np
/-- x = {k: v for ..} on one line -/
theorem setDc {i : Nat} {x : Str} {px : Pos} {kx vx tg iter : Expr} {ifs : List Expr} {scope : Scope} {own : List (Str × Nat)} {pos spos : Pos} {wi : TI} {g : TG} {tt : TT} {tk tv : TE} (hc : X.calm = true) (hN : X.N.Nodup) (hy : X.N[i]? = some x) (hyl : X.env.scope.names.lookup x = some .local)
    (hsw : swapsWith (.DictComp kx vx [⟨tg, iter, ifs, 0⟩] scope pos) (some (.Name x px)) spos.line X.env = pure true) (hi : PI X tg iter wi) (ok : BlkOk X.N X.env.scope scope own)
    (hg : BlkP X scope fun X' => PG X' tg g) (ht : BlkP X scope fun X' => PTs X' ifs tt) (hk : BlkP X scope fun X' => PE X' kx tk) (he : BlkP X scope fun X' => PE X' vx tv) (hs : ∀ x, foldedSetIterable iter X.env x = pure x) :
    PS X (.Assign [.Name x px] (.DictComp kx vx [⟨tg, iter, ifs, 0⟩] scope pos) spos) (tAsg (tDc wi g tt tk tv (own.map (·.2))) (gName i)) := by
  constructor
  intro pins s σ H D I q0
  rw [exec_Assign_Name_used _ _ _ _ hsw]
  apply wpAny_bind
  apply wpAny_standAt
  apply wpAny_bind
  show wpAny _ X.A (do let _ ← comprehension (.DictComp kx vx [⟨tg, iter, ifs, 0⟩] scope pos) scope X.env (firstIterPos [⟨tg, iter, ifs, 0⟩] pos) newDict false (eval iter X.env) (some (assign (.Name x px) X.env))) _ _ s
  have q0 : tDc wi g tt tk tv (own.map (·.2)) σ H (fun x H1 => gName i x σ H1 D.nx) := q0
  refine wpAny_bind (thn (dc_core (Qf := fun _ s' => SP X pins D .next s') hc hN I hi ok hg ht hk he hs q0 fun L C s' m H' I' q hn f => ?_) fun _ s' hq => wpAny_pure (wpAny_pure hq))
  show wpAny _ _ (assign (.Name x px) X.env (.ref L)) _ _ _
  refine wpAny_assign_Name (store_ok2 (v := V.ref L) I' hN hy (.inl hyl) rfl (fun s2 I2 ⟨a, sb, ha⟩ => ?_) (.inr hyl))
  rcases f with ⟨f0, f1, f2, f3, f4, f5⟩
  have haC : C ≠ a := by
    cases ha with
    | inl z => rw [z]; exact f1
    | inr z => exact fun e => f4 x a z e.symm
  exact ⟨m, hn.sameBut sb haC, fun h3 sb3 => ⟨_, H', I2.turned (t' := s2.toks) (fun b o hb e => (sb3.2 b hb).trans e) f0 f1 f3 f4 f5, q⟩⟩
theorem sw_dict {kx vx : Expr} {gs : List Comprehension} {scope : Scope} {pos px : Pos} {x : Str} {l : Nat} {env : Env} (hk : env.scope.kind = .function) (hy : env.scope.names.lookup x = some .local) (hl : (px.line == pos.line) = true)
    (ha : (scope.names.any fun (n, k) => n == x && (k == .local || k == .cell)) = false) : swapsWith (.DictComp kx vx gs scope pos) (some (.Name x px)) l env = pure true := by
  have k1 : env.kindOf x = some .local := hy
  have k2 : env.blockKind = .function := by simp [Env.blockKind, hk]
  unfold swapsWith
  simp only [k2, k1, ha, Expr.pos, hl]
  rfl
theorem s_setdc {x : Str} (i : Nat) {px spos pos : Pos} {kx vx tg iter : Expr} {ifs : List Expr} {scope : Scope} (own : List (Str × Nat)) {mi : MI} {g : Tg} {mk : MB} {ek ev : M} (hc : X.calm = true) (hN : X.N.Nodup) (hi : DI X CL W c tg iter mi)
    (hg : BlkP X scope fun X' => DG X' tg g) (hk : BlkP X scope fun X' => PTs X' ifs (rd X.K CL W0 relB c mk)) (hke : BlkP X scope fun X' => DE X' CL W0 c kx ek) (he : BlkP X scope fun X' => DE X' CL W0 c vx ev) (ok : blkC X.N X.env.scope scope own = true := by first | rfl | kernel_rfl) (ho : ∀ i ∈ g.own, i ∈ own.map (·.2) := by decide) (hs : ∀ x, foldedSetIterable iter X.env x = pure x := by intro _; rfl)
    (hk' : X.env.scope.kind = .function := by rfl) (hy : X.N[i]? = some x := by rfl) (hyl : X.env.scope.names.lookup x = some .local := by rfl) (hl : (px.line == pos.line) = true := by rfl) (hna : (scope.names.any fun (n, k) => n == x && (k == .local || k == .cell)) = false := by rfl) :
    DS X CL W c (.Assign [.Name x px] (.DictComp kx vx [⟨tg, iter, ifs, 0⟩] scope pos) spos) (sSet i (mDComp mi g (own.map (·.2)) mk ek ev)) :=
  psimp (setDc (g := TGD X.K g) (tt := rd X.K CL W0 relB c mk) (tk := rd X.K CL W0 (relD X.K) c ek) (tv := rd X.K CL W0 (relD X.K) c ev) hc hN hy hyl (sw_dict hk' hyl hl hna) hi (blkOk_by ok) hg hk hke he hs) fun E σ H ⟨r, t, h, Y, S, q⟩ => by
    obtain ⟨r', t', h', Y', S', q'⟩ : rd X.K CL W (relD X.K) c (mDComp mi g (own.map (·.2)) mk ek ev) σ H fun v H1 => E.nx (σ.set i (some v)) H1 :=
      (rs_bind Y S q).mono fun v H1 ⟨r1, h1, d, e1, Y1, S1, rv, q1⟩ => q1.nx Y1 (S1.set i rv)
    exact (rd_bind (rel1 := relI X.K) Y' S' q').mono fun J H1 ⟨r1, h1, s, e1, Y1, S1, rI, q1⟩ => fun p np => dcomp_core Y1 S1 rI ho q1 p np
end
end Ev

/-! Ev29: < of tuples; min of a list. -/
namespace Ev
open PySem PySem.Spec PyProof.Rows L2 PySem.Calls PySem.SeqAt
open PySem.W (Frag EachIs keyToks keyToksAll dataLt AlikeAll minD min_list_data)
noncomputable def dLtT (x y : D) (h : Hd) : Res D :=
  match x, y with
  | .tup xs, .tup ys => if ((D.plainA xs && D.plainA ys) && (near (.tup xs) (.tup ys) && cmpbA (D.toPA xs) (D.toPA ys))) = true then .ok (.bl (dataLt (.tuple (D.toPA xs)) (.tuple (D.toPA ys)))) h else .stuck
  | x, y => dLt x y h
mutual
/-- no lists within -/
def D.noL : D → Bool
  | .ref _ => false
  | .exc _ _ _ _ => false
  | .tup xs => D.noLA xs
  | .lst _ => false
  | .scr _ => false
  | _ => true
def D.noLA : List D → Bool
  | [] => true
  | x :: xs => D.noL x && D.noLA xs
end
mutual
theorem noL_plain : ∀ x : D, x.noL = true → x.plain = true
  | .ref _, h => by simp [D.noL] at h
  | .exc _ _ _ _, h => by simp [D.noL] at h
  | .lst _, h => by simp [D.noL] at h
  | .scr _, h => by simp [D.noL] at h
  | .tup xs, h => by simp only [D.noL, D.plain] at *; exact noLA_plain xs h
  | .non, _ => rfl
  | .bl _, _ => rfl
  | .int _, _ => rfl
  | .str _, _ => rfl
theorem noLA_plain : ∀ xs : List D, D.noLA xs = true → D.plainA xs = true
  | [], _ => rfl
  | x :: xs, h => by
    simp only [D.noLA, D.plainA, Bool.and_eq_true] at *
    exact ⟨noL_plain x h.1, noLA_plain xs h.2⟩
end
mutual
theorem toP_inj : ∀ x y : D, x.noL = true → y.noL = true → x.toP = y.toP → x = y
  | .ref _, _, h, _, _ => by simp [D.noL] at h
  | .exc _ _ _ _, _, h, _, _ => by simp [D.noL] at h
  | .lst _, _, h, _, _ => by simp [D.noL] at h
  | .scr _, _, h, _, _ => by simp [D.noL] at h
  | .tup xs, y, h, k, e => by
    cases y <;> simp [D.noL] at h k <;> simp [D.toP] at e
    rename_i ys
    rw [toPA_inj xs ys h k e]
  | .non, y, _, k, e => by cases y <;> simp [D.noL] at k <;> simp [D.toP] at e <;> rfl
  | .bl _, y, _, k, e => by cases y <;> simp [D.noL] at k <;> simp [D.toP] at e; subst e; rfl
  | .int _, y, _, k, e => by cases y <;> simp [D.noL] at k <;> simp [D.toP] at e; subst e; rfl
  | .str _, y, _, k, e => by cases y <;> simp [D.noL] at k <;> simp [D.toP] at e; subst e; rfl
theorem toPA_inj : ∀ xs ys : List D, D.noLA xs = true → D.noLA ys = true → D.toPA xs = D.toPA ys → xs = ys
  | [], [], _, _, _ => rfl
  | [], y :: ys, _, _, e => by simp [D.toPA] at e
  | x :: xs, [], _, _, e => by simp [D.toPA] at e
  | x :: xs, y :: ys, h, k, e => by
    simp only [D.noLA, Bool.and_eq_true] at h k
    simp only [D.toPA, List.cons.injEq] at e
    rw [toP_inj x y h.1 k.1 e.1, toPA_inj xs ys h.2 k.2 e.2]
end
theorem noLA_iff {xs : List D} : D.noLA xs = true ↔ ∀ x ∈ xs, x.noL = true := by
  induction xs with
  | nil => simp [D.noLA]
  | cons x xs ih => simp [D.noLA, ih]
noncomputable def leastD (x : D) (xs : List D) : D := xs.foldl (fun a y => if dataLt y.toP a.toP = true then y else a) x
theorem leastD_toP (x : D) (xs : List D) : (leastD x xs).toP = minD x.toP (D.toPA xs) := by
  rw [toPA_map]
  unfold leastD minD
  induction xs generalizing x with
  | nil => rfl
  | cons y ys ih =>
    rw [List.map_cons, List.foldl_cons, List.foldl_cons, ih]
    congr 1
    by_cases q : dataLt y.toP x.toP = true
    · rw [if_pos q, if_pos q]
    · rw [if_neg q, if_neg q]
theorem leastD_mem (x : D) (xs : List D) : leastD x xs ∈ x :: xs := by
  unfold leastD
  induction xs generalizing x with
  | nil => simp
  | cons y ys ih =>
    rw [List.foldl_cons]
    have := ih (if dataLt y.toP x.toP = true then y else x)
    rcases List.mem_cons.mp this with h | h
    · rw [h]
      by_cases q : dataLt y.toP x.toP = true <;> simp [q]
    · exact List.mem_cons_of_mem _ (List.mem_cons_of_mem _ h)
def minOk (xs : List D) : Prop := D.noLA xs = true ∧ D.depA xs ≤ 400 ∧ AlikeAll (D.toPA xs)
open Classical in
noncomputable def gMinL : FB := fun ds h => match ds with
  | [d] => match listOf h d with
    | some (x :: xs) => if minOk (x :: xs) then .ok (leastD x xs) h else .stuck
    | _ => .stuck
  | _ => .stuck
section
variable {X : Cx} {CL : List XC} {W : WX} {c : Calls}
theorem op_ltT (hu : X.A.units + 560 < cLine) : OpR X (compareOp .Lt) (opR X.K dLtT) := by
  intro pins s σ H x y v u Q I rx ry h
  obtain ⟨r, h, d, e, Y, hd, he, q⟩ := h
  unfold dLtT at q
  split at q
  · rename_i xs ys
    obtain ⟨cc, q⟩ := ok_of q
    rw [Bool.and_eq_true, Bool.and_eq_true, Bool.and_eq_true] at cc
    obtain ⟨⟨p1, p2⟩, nr, cb⟩ := cc
    have p1' : (D.tup xs).plain = true := by simpa [D.plain] using p1
    have p2' : (D.tup ys).plain = true := by simpa [D.plain] using p2
    obtain ⟨as, r1⟩ := Dp.reads I _ _ _ (hd.dp p1') rx
    obtain ⟨bs, r2⟩ := Dp.reads I _ _ _ (he.dp p2') ry
    have hn := near_room nr
    simp only [D.toP] at r1 r2 hn
    have l1 := hd.lay
    have l2 := he.lay
    simp only [D.toP] at l1 l2
    exact rcLt_cmpb _ _ X.A s _ _ _ _ r1 r2 l1 l2 (by simpa [cmpb] using cb) (by omega) X.prog X.w _ _ ⟨.bl _, H, I, rfl, q.now Y (.bl _)⟩
  · exact op_ltE pins s σ H x y v u Q I rx ry ⟨r, h, d, e, Y, hd, he, q⟩
theorem calm_ltT : Calm dLtT := by
  intro x y h c fs h'
  unfold dLtT
  split
  · split <;> (intro z; cases z)
  · exact calm_cmp _ _ _ _ _ _
theorem ca_minL (hc : X.calm = true) (hu : X.A.units + 560 < cLine) : CaE X (.builtin "min") gMinL := by
  intro pins s σ H xs us Q I rv ⟨r, h, ds, Y, ra, q⟩
  unfold gMinL at q
  split at q
  · rename_i d
    obtain ⟨v, rfl, rp⟩ := one_of ra
    split at q
    · rename_i y ys e
      by_cases ok : minOk (y :: ys)
      rotate_left
      · rw [if_neg ok] at q; exact q.elim
      rw [if_pos ok] at q
      obtain ⟨p0, p4, al⟩ := ok
      have p1 := noLA_plain _ p0
      obtain ⟨a, vs, rfl, k, sq⟩ := list_rep Y rp e
      obtain ⟨u0, rfl, r0⟩ := vals1 rv
      obtain ⟨as, r1⟩ := Dp.reads I _ _ _ (Dp.lst sq (k.dp p1)) r0
      obtain ⟨its, rvs, hl, _⟩ := I.list sq
      rw [Vals.ref1 rv]
      have er := each_reads I rfl rvs k p1
      have es := stands_of rvs k
      have e0 : u0 = .ref a := by have := Vals.ref1 rv; simpa using this
      subst e0
      cases r1 with
      | @list l o vs1 n _ as1 h1 h2 h3 h4 =>
        have hi : its.toArray = vs1 := by
          obtain ⟨o2, n2, g1, g2, g3, g4⟩ := hl
          rw [h1] at g1
          cases g1
          rw [h3] at g4
          injection g4 with g4 _
          exact g4.symm
        subst hi
        simp only [D.toPA] at h4 al
        refine min_list_data (I.ok.hd hc) ⟨o, h1, h2, n, h3⟩ h4 al (by
          have : PyData.depthAll (y.toP :: D.toPA ys) ≤ 400 := by
            have := toPA_dep (y :: ys)
            simp only [D.toPA] at this
            omega
          omega) fun i v h' tk bs hv rd keep => ?_
        have hvm : v ∈ its := by
          rw [List.getElem?_toArray] at hv
          exact List.mem_of_getElem? hv
        obtain ⟨d', hd', V, hV, rV⟩ := es.left v hvm
        have nd' := noLA_iff.mp p0 d' hd'
        obtain ⟨as', rd'⟩ := Dp.reads I _ _ _ (rV.dp (noL_plain _ nd')) hV
        have nl := noLA_iff.mp p0 _ (leastD_mem y ys)
        have ed : d' = leastD y ys := by
          refine toP_inj _ _ nd' nl (toP_uniq d' (leastD y ys) v _ bs (noL_plain _ nd') (noL_plain _ nl) (PyProof.Rows.Reads.keeps keep rd') ?_)
          rw [leastD_toP]
          exact rd
        rw [ed] at rV
        exact ⟨V, H, I.kept keep, hV, q.now Y rV⟩
    · exact q.elim
  · exact q.elim
theorem calmB_minL : CalmB gMinL := by
  intro ds h c fs h'
  unfold gMinL
  split
  · split
    · split <;> (intro z; cases z)
    · intro z; cases z
  · intro z; cases z
theorem g_minL {e : Expr} {es : List Expr} {l : ML} {p pos : Pos} (hm : X.mg "min" = none) (hc : X.calm = true) (hu : X.A.units + 560 < cLine) (ha : DA X CL W c (e :: es) l) (hg : Gl X "min" := by rfl) (he : starEach (e :: es) X.env = (false, eval e X.env) :: starEach es X.env := by rfl) (hpl : (backTo pos (starEach es X.env)).any (·.1) = false := by rfl) :
    DE X CL W c (.Call (.Name "min" p) (e :: es) [] pos) (mB gMinL l) := de_bif calmB_minL (ca_minL hc hu) hg hm (by first | rfl | kernel_rfl) ha (by decide) (by decide) he hpl
theorem t_ltT {a b : Expr} {ma mb : M} {pos : Pos} (hu : X.A.units + 560 < cLine) (ha : DE X CL W c a ma) (hb : DE X CL W c b mb) (hm : behindInMarks .Lt b = false := by rfl) : DT X CL W c (.Compare a [.Lt] [b] pos) (tCmp (mOp dLtT ma mb)) := dt_op calm_ltT (op_ltT hu) ha hb hm
end
end Ev

namespace K04
open PySem PySem.Spec PyProof.Rows L2 PySem.Calls Ev
open PySem.W (Frag)
abbrev prg : Program := PySem.Challenge.pw_snagdesk_k04_walks
def top (i : Nat) : Stmt := prg.main.body.getD i (.Pass ⟨0, 0, 0, 0⟩)
abbrev k_MOST_LENGTH : D := (.int 30)
abbrev k_NEVER : D := (.int 1000000000)
def nmf (k : Nat) : List Str := ([["what"], ["name"], ["reason"]] : List (List Str)).getD k []
noncomputable def b_is_whole : MS :=
  (sRet (mAnd (mUn (dIs .int) (mVar 0)) (mUn dNot (mUn (dIs .bool) (mVar 0)))))
noncomputable def b_is_between : MS :=
  (sRet (mAnd (mCall 0 (aCons (mVar 0) aNil)) (mChain dLe dLe (mVar 1) (mVar 0) (mVar 2))))
noncomputable def b_require_state : MS :=
  (sIf (tCmp (mOp (dIn true) (mVar 1) (mOp dIx (mVar 0) (mC (.int 0)))))
  (sRaise 1 1 (aCons (mVar 1) aNil))
  sNil)
noncomputable def b_ways_from : MS :=
  (sSeq (sExpr (mCall 2 (aCons (mVar 0) (aCons (mVar 1) aNil))))
  (sRet (mB gTuple (aCons (mComp false (iVal (mOp dIx (mVar 0) (mC (.int 2)))) (.nm 2) [2] (tCmp (mOp (dEq false) (mOp dIx (mVar 2) (mC (.int 1))) (mVar 1))) (mVar 2)) aNil))))
noncomputable def b_find_way : MS :=
  (sSeq (sFor (iVal (mCall 3 (aCons (mVar 0) (aCons (mVar 1) aNil)))) (.nm 3)
  (sIf (tCmp (mOp (dEq false) (mOp dIx (mVar 3) (mC (.int 0))) (mVar 2)))
  (sRet (mVar 3))
  sNil))
  (sRet (mC .non)))
noncomputable def b_reachable : MS :=
  (sSeq (sExpr (mCall 2 (aCons (mVar 0) (aCons (mVar 1) aNil))))
  (sSeq (sSet 2 (mDict1 (mVar 1) (mC (.bl true))))
  (sSeq (sSet 3 (mLst true (aCons (mVar 1) aNil)))
  (sSeq (sWhile (tVal (mVar 3))
  (sSeq (sSet 4 (mMt kPop (mVar 3) aNil))
  (sFor (iVal (mCall 3 (aCons (mVar 0) (aCons (mVar 4) aNil)))) (.nm 5)
  (sIf (tCmp (mOp (dIn true) (mOp dIx (mVar 5) (mC (.int 2))) (mVar 2)))
  (sSeq (sPut (mVar 2) (mOp dIx (mVar 5) (mC (.int 2))) (mC (.bl true)))
  (sExpr (mMt kAppend (mVar 3) (aCons (mOp dIx (mVar 5) (mC (.int 2))) aNil))))
  sNil))))
  (sRet (mB gTuple (aCons (mComp false (iVal (mOp dIx (mVar 0) (mC (.int 0)))) (.nm 6) [6] (tCmp (mOp (dIn false) (mVar 6) (mVar 2))) (mVar 6)) aNil)))))))
noncomputable def b_reaches_closed : MS :=
  (sSeq (sIf (tCmp (mOp (dEq false) (mVar 1) (mVar 2)))
  (sRet (mC (.bl false)))
  sNil)
  (sSeq (sSet 3 (mDict1 (mVar 1) (mC (.bl true))))
  (sSeq (sSet 4 (mLst true (aCons (mVar 1) aNil)))
  (sSeq (sWhile (tVal (mVar 4))
  (sSeq (sSet 5 (mMt kPop (mVar 4) aNil))
  (sSeq (sIf (tCmp (mOp (dIn false) (mVar 5) (mOp dIx (mVar 0) (mC (.int 1)))))
  (sRet (mC (.bl true)))
  sNil)
  (sFor (iVal (mCall 3 (aCons (mVar 0) (aCons (mVar 5) aNil)))) (.nm 6)
  (sIf (tAnd (tCmp (mOp (dIn true) (mOp dIx (mVar 6) (mC (.int 2))) (mVar 3))) (tCmp (mOp (dEq true) (mOp dIx (mVar 6) (mC (.int 2))) (mVar 2))))
  (sSeq (sPut (mVar 3) (mOp dIx (mVar 6) (mC (.int 2))) (mC (.bl true)))
  (sExpr (mMt kAppend (mVar 4) (aCons (mOp dIx (mVar 6) (mC (.int 2))) aNil))))
  sNil)))))
  (sRet (mC (.bl false)))))))
noncomputable def b_dead_states : MS :=
  (sRet (mB gTuple (aCons (mComp false (iVal (mOp dIx (mVar 0) (mC (.int 0)))) (.nm 1) [1] (tNot (tVal (mCall 6 (aCons (mVar 0) (aCons (mVar 1) (aCons (mC .non) aNil)))))) (mVar 1)) aNil)))
noncomputable def b_distances : MS :=
  (sSeq (sSet 2 (mDict1 (mVar 1) (mC (.int 0))))
  (sSeq (sFor (iRng2 (mC (.int 1)) (mB gLen (aCons (mOp dIx (mVar 0) (mC (.int 0))) aNil))) (.nm 3)
  (sFor (iVal (mOp dIx (mVar 0) (mC (.int 2)))) (.nm 4)
  (sIf (tAnd (tCmp (mOp (dIn true) (mOp dIx (mVar 4) (mC (.int 1))) (mVar 2))) (tCmp (mOp (dEq false) (mMt kGet (mVar 2) (aCons (mOp dIx (mVar 4) (mC (.int 2))) (aCons (mC k_NEVER) aNil))) (mOp dSub (mVar 3) (mC (.int 1))))))
  (sPut (mVar 2) (mOp dIx (mVar 4) (mC (.int 1))) (mVar 3))
  sNil)))
  (sRet (mVar 2))))
noncomputable def b_walk_along : MS :=
  (sSeq (sExpr (mCall 2 (aCons (mVar 0) (aCons (mVar 1) aNil))))
  (sSeq (sSet 3 (mVar 1))
  (sSeq (sFor (iVal (mVar 2)) (.nm 4)
  (sSeq (sSet 5 (mCall 4 (aCons (mVar 0) (aCons (mVar 3) (aCons (mVar 4) aNil)))))
  (sSeq (sIf (tCmp (mUn (dIsN false) (mVar 5)))
  (sRet (mC .non))
  sNil)
  (sSet 3 (mOp dIx (mVar 5) (mC (.int 2)))))))
  (sRet (mVar 3)))))
noncomputable def b_shortest_walk : MS :=
  (sSeq (sExpr (mCall 2 (aCons (mVar 0) (aCons (mVar 1) aNil))))
  (sSeq (sExpr (mCall 2 (aCons (mVar 0) (aCons (mVar 2) aNil))))
  (sSeq (sSet 3 (mCall 8 (aCons (mVar 0) (aCons (mVar 2) aNil))))
  (sSeq (sIf (tCmp (mOp (dIn true) (mVar 1) (mVar 3)))
  (sRet (mC .non))
  sNil)
  (sSeq (sSet 4 (mLst true aNil))
  (sSeq (sSet 5 (mVar 1))
  (sSeq (sWhile (tCmp (mOp (dEq true) (mVar 5) (mVar 2)))
  (sSeq (sSet 6 (mOp dSub (mOp dIx (mVar 3) (mVar 5)) (mC (.int 1))))
  (sSeq (sSet 7 (mComp false (iVal (mCall 3 (aCons (mVar 0) (aCons (mVar 5) aNil)))) (.nm 9) [9] (tCmp (mOp (dEq false) (mMt kGet (mVar 3) (aCons (mOp dIx (mVar 9) (mC (.int 2))) (aCons (mC k_NEVER) aNil))) (mVar 6))) (mTup (aCons (mOp dIx (mVar 9) (mC (.int 0))) (aCons (mOp dIx (mVar 9) (mC (.int 2))) aNil)))))
  (sSeq (sAsg (.tp [8, 5]) (mB gMinL (aCons (mVar 7) aNil)))
  (sExpr (mMt kAppend (mVar 4) (aCons (mVar 8) aNil)))))))
  (sRet (mB gTuple (aCons (mVar 4) aNil))))))))))
noncomputable def b_count_walks : MS :=
  (sSeq (sExpr (mCall 2 (aCons (mVar 0) (aCons (mVar 1) aNil))))
  (sSeq (sExpr (mCall 2 (aCons (mVar 0) (aCons (mVar 2) aNil))))
  (sSeq (sIf (tNot (tVal (mCall 1 (aCons (mVar 3) (aCons (mC (.int 0)) (aCons (mC k_MOST_LENGTH) aNil))))))
  (sRaise 0 1 (aCons (mC (.str [108, 101, 110, 103, 116, 104])) aNil))
  sNil)
  (sSeq (sSet 4 (mDict1 (mVar 1) (mC (.int 1))))
  (sSeq (sFor (iRng1 (mVar 3)) (.nm 5)
  (sSeq (sSet 6 mDict0)
  (sSeq (sFor (iVal (mOp dIx (mVar 0) (mC (.int 2)))) (.nm 7)
  (sIf (tCmp (mOp (dIn false) (mOp dIx (mVar 7) (mC (.int 1))) (mVar 4)))
  (sPut (mVar 6) (mOp dIx (mVar 7) (mC (.int 2))) (mOp (dAdd false) (mMt kGet (mVar 6) (aCons (mOp dIx (mVar 7) (mC (.int 2))) (aCons (mC (.int 0)) aNil))) (mOp dIx (mVar 4) (mOp dIx (mVar 7) (mC (.int 1))))))
  sNil))
  (sSet 4 (mVar 6)))))
  (sRet (mMt kGet (mVar 4) (aCons (mVar 2) (aCons (mC (.int 0)) aNil)))))))))
noncomputable def b_must_pass : MS :=
  (sSeq (sExpr (mCall 2 (aCons (mVar 0) (aCons (mVar 1) aNil))))
  (sSeq (sIf (tNot (tVal (mCall 6 (aCons (mVar 0) (aCons (mVar 1) (aCons (mC .non) aNil))))))
  (sRaise 2 1 (aCons (mC (.str [100, 101, 97, 100])) aNil))
  sNil)
  (sRet (mB gTuple (aCons (mComp false (iVal (mOp dIx (mVar 0) (mC (.int 0)))) (.nm 2) [2] (tNot (tVal (mCall 6 (aCons (mVar 0) (aCons (mVar 1) (aCons (mVar 2) aNil)))))) (mVar 2)) aNil)))))
noncomputable def b_least_days : MS :=
  (sSeq (sExpr (mCall 2 (aCons (mVar 0) (aCons (mVar 1) aNil))))
  (sSeq (sSet 2 (mDComp (iVal (mOp dIx (mVar 0) (mC (.int 1)))) (.nm 5) [5] tYesM (mVar 5) (mC (.int 0))))
  (sSeq (sFor (iRng1 (mB gLen (aCons (mOp dIx (mVar 0) (mC (.int 0))) aNil))) (.nm 3)
  (sFor (iVal (mOp dIx (mVar 0) (mC (.int 2)))) (.nm 4)
  (sIf (tAnd (tCmp (mOp (dIn false) (mOp dIx (mVar 4) (mC (.int 2))) (mVar 2))) (tCmp (mOp dLt (mOp (dAdd false) (mOp dIx (mVar 2) (mOp dIx (mVar 4) (mC (.int 2)))) (mOp dIx (mVar 4) (mC (.int 3)))) (mMt kGet (mVar 2) (aCons (mOp dIx (mVar 4) (mC (.int 1))) (aCons (mC k_NEVER) aNil))))))
  (sPut (mVar 2) (mOp dIx (mVar 4) (mC (.int 1))) (mOp (dAdd false) (mOp dIx (mVar 2) (mOp dIx (mVar 4) (mC (.int 2)))) (mOp dIx (mVar 4) (mC (.int 3)))))
  sNil)))
  (sRet (mMt kGet (mVar 2) (aCons (mVar 1) aNil))))))
noncomputable def b__law_cell : MS :=
  (sSeq (sIf (tCmp (mOp dLt (mVar 1) (mB gLen (aCons (mVar 0) aNil))))
  (sRet (mB gInt (aCons (mOp dIx (mVar 0) (mVar 1)) aNil)))
  sNil)
  (sSeq (sIf (tCmp (mOp (dEq false) (mB gLen (aCons (mVar 0) aNil)) (mC (.int 0))))
  (sRet (mOp (dAdd false) (mOp (dMul false) (mC (.int 40009)) (mVar 1)) (mC (.int 11))))
  sNil)
  (sRet (mOp dMod (mB gInt (aCons (mOp (dAdd false) (mOp (dMul false) (mB gInt (aCons (mOp dIx (mVar 0) (mOp dMod (mB gInt (aCons (mVar 1) aNil)) (mB gLen (aCons (mVar 0) aNil)))) aNil)) (mC (.int 31))) (mOp (dMul false) (mC (.int 40009)) (mVar 1))) aNil)) (mC (.int 1000003))))))
noncomputable def b__law_digits : MS :=
  (sSeq (sSet 2 (mLst true aNil))
  (sSeq (sSet 3 (mVar 0))
  (sSeq (sIf (tCmp (mOp dLt (mVar 0) (mOp dPow (mC (.int 10)) (mC (.int 18)))))
  (sSet 3 (mOp dMod (mB gInt (aCons (mVar 0) aNil)) (mC (.int 2147483647))))
  sNil)
  (sSeq (sFor (iVal (mVar 1)) (.nm 4)
  (sIf (tCmp (mOp dLt (mVar 0) (mOp dPow (mC (.int 10)) (mC (.int 18)))))
  (sSeq (sSet 3 (mOp dMod (mB gInt (aCons (mOp (dAdd false) (mOp (dAdd false) (mOp (dMul false) (mVar 3) (mC (.int 48271))) (mC (.int 69621))) (mOp (dMul false) (mC (.int 7)) (mB gLen (aCons (mVar 2) aNil)))) aNil)) (mC (.int 2147483647))))
  (sExpr (mMt kAppend (mVar 2) (aCons (mOp dMod (mB gInt (aCons (mOp dDiv (mVar 3) (mC (.int 1009))) aNil)) (mVar 4)) aNil))))
  (sSeq (sExpr (mMt kAppend (mVar 2) (aCons (mOp dMod (mB gInt (aCons (mVar 3) aNil)) (mVar 4)) aNil)))
  (sSet 3 (mOp dDiv (mVar 3) (mVar 4))))))
  (sRet (mVar 2))))))
noncomputable def b__law_names : MS :=
  (sSeq (sSet 2 (mC (.str [97, 98, 99, 100, 101, 102, 103, 104, 105, 106, 107, 108, 109, 110, 111, 112, 113, 114, 115, 116, 117, 118, 119, 120, 121, 122])))
  (sSeq (sSet 3 (mCall 15 (aCons (mVar 0) (aCons (mOp (dAdd false) (mOp (dAdd false) (mLst false (aCons (mC (.int 4)) (aCons (mC (.int 12)) aNil))) (mOp (dMul false) (mLst false (aCons (mC (.int 26)) aNil)) (mC (.int 12)))) (mOp (dMul false) (mLst false (aCons (mC (.int 12)) (aCons (mC (.int 26)) (aCons (mC (.int 12)) aNil)))) (mVar 1))) aNil))))
  (sSeq (sSet 4 (mMt kJoin (mC (.str [])) (aCons (mComp false (iVal (mCut false (mVar 3) (pYes (mC (.int 2))) (pYes (mC (.int 14))))) (.nm 12) [12] tYesM (mOp dIx (mVar 2) (mVar 12))) aNil)))
  (sSeq (sSet 5 (mLst true aNil))
  (sSeq (sFor (iRng1 (mVar 1)) (.nm 6)
  (sSeq (sSet 7 (mOp dIx (mVar 3) (mOp (dAdd false) (mC (.int 14)) (mOp (dMul false) (mC (.int 3)) (mVar 6)))))
  (sSeq (sSet 8 (mOp dIx (mVar 2) (mOp dIx (mVar 3) (mOp (dAdd false) (mC (.int 15)) (mOp (dMul false) (mC (.int 3)) (mVar 6))))))
  (sSeq (sSet 9 (mOp (dAdd false) (mC (.int 1)) (mOp dIx (mVar 3) (mOp (dAdd false) (mC (.int 16)) (mOp (dMul false) (mC (.int 3)) (mVar 6))))))
  (sSeq (sSet 10 (mCut false (mOp (dAdd false) (mOp (dAdd false) (mVar 8) (mCut false (mVar 4) (pYes (mVar 7)) pNo)) (mCut false (mVar 4) pNo (pYes (mVar 7)))) pNo (pYes (mVar 9))))
  (sSeq (sIf (tCmp (mOp (dEq false) (mOp dIx (mVar 3) (mC (.int 0))) (mC (.int 1))))
  (sSet 10 (mCut false (mVar 4) pNo (pYes (mVar 9))))
  sNil)
  (sSeq (sIf (tCmp (mOp (dEq false) (mOp dIx (mVar 3) (mC (.int 0))) (mC (.int 2))))
  (sSeq (sSet 9 (mOp (dAdd false) (mC (.int 1)) (mOp dIx (mVar 3) (mC (.int 1)))))
  (sSeq (sSet 7 (mOp dMod (mB gInt (aCons (mVar 7) aNil)) (mVar 9)))
  (sSet 10 (mOp (dAdd false) (mOp (dAdd false) (mCut false (mVar 4) pNo (pYes (mVar 7))) (mVar 8)) (mCut false (mVar 4) (pYes (mOp (dAdd false) (mVar 7) (mC (.int 1)))) (pYes (mVar 9)))))))
  sNil)
  (sSeq (sFor (iRng1 (mC (.int 26))) (.nm 11)
  (sIf (tCmp (mOp (dIn false) (mVar 10) (mVar 5)))
  (sSet 10 (mOp (dAdd false) (mOp dIx (mVar 2) (mVar 11)) (mOp dIx (mVar 2) (mVar 6))))
  sNil))
  (sExpr (mMt kAppend (mVar 5) (aCons (mVar 10) aNil)))))))))))
  (sRet (mVar 5)))))))
noncomputable def b__law_flow : MS :=
  (sSeq (sSet 4 (mLst false (aCons (mC (.str [98, 108, 111, 99, 107, 101, 114])) (aCons (mC (.str [99, 104, 105, 108, 100])) (aCons (mC (.str [111, 114, 105, 103, 105, 110, 97, 108])) (aCons (mC (.str [112, 97, 114, 101, 110, 116])) aNil))))))
  (sSeq (sSet 5 (mCall 15 (aCons (mVar 0) (aCons (mOp (dAdd false) (mOp (dAdd false) (mLst false (aCons (mC (.int 8)) (aCons (mC (.int 17)) (aCons (mC (.int 4)) aNil)))) (mOp (dMul false) (mLst false (aCons (mC (.int 3)) aNil)) (mC (.int 8)))) (mOp (dMul false) (mLst false (aCons (mC (.int 16)) (aCons (mC (.int 8)) (aCons (mC (.int 8)) (aCons (mC (.int 21)) (aCons (mC (.int 4)) (aCons (mC (.int 3)) (aCons (mC (.int 3)) (aCons (mC (.int 3)) (aCons (mC (.int 3)) (aCons (mC (.int 10)) (aCons (mC (.int 10)) (aCons (mC (.int 10)) (aCons (mC (.int 10)) aNil)))))))))))))) (mC (.int 16)))) aNil))))
  (sSeq (sSet 1 (mCut false (mVar 1) pNo (pYes (mOp (dAdd false) (mC (.int 1)) (mOp dIx (mVar 5) (mC (.int 0)))))))
  (sSeq (sSet 6 (mComp false (iRng1 (mB gLen (aCons (mVar 1) aNil))) (.nm 9) [9] (tCmp (mOp (dEq false) (mOp dIx (mVar 5) (mOp (dAdd false) (mC (.int 3)) (mVar 9))) (mC (.int 1)))) (mOp dIx (mVar 1) (mVar 9))))
  (sSeq (sSet 7 (mComp false (iVal (mVar 1)) (.nm 15) [15] (tCmp (mOp (dIn true) (mVar 15) (mVar 6))) (mVar 15)))
  (sSeq (sSet 8 (mLst true aNil))
  (sSeq (sFor (iRng1 (mOp dIx (mVar 5) (mC (.int 1)))) (.nm 9)
  (sSeq (sSet 10 (mCut false (mVar 5) (pYes (mOp (dAdd false) (mC (.int 11)) (mOp (dMul false) (mC (.int 13)) (mVar 9)))) (pYes (mOp (dAdd false) (mC (.int 24)) (mOp (dMul false) (mC (.int 13)) (mVar 9))))))
  (sSeq (sSet 11 (mOp dIx (mVar 2) (mOp dMod (mB gInt (aCons (mOp dIx (mVar 10) (mC (.int 0))) aNil)) (mOp dIx (mLst false (aCons (mC (.int 2)) (aCons (mC (.int 4)) (aCons (mC (.int 8)) (aCons (mC (.int 16)) aNil))))) (mOp dIx (mVar 5) (mC (.int 2)))))))
  (sSeq (sSet 12 (mComp false (iRng1 (mC (.int 4))) (.nm 16) [16] (tCmp (mOp (dEq false) (mOp dIx (mVar 10) (mOp (dAdd false) (mC (.int 5)) (mVar 16))) (mC (.int 1)))) (mTup (aCons (mOp dIx (mVar 4) (mVar 16)) (aCons (mOp dIx (mVar 10) (mOp (dAdd false) (mC (.int 9)) (mVar 16))) aNil)))))
  (sIf (tCmp (mOp dGt (mB gLen (aCons (mVar 7) aNil)) (mC (.int 0))))
  (sSeq (sSet 13 (mOp dIx (mVar 7) (mOp dMod (mB gInt (aCons (mOp dIx (mVar 10) (mC (.int 1))) aNil)) (mB gLen (aCons (mVar 7) aNil)))))
  (sSeq (sSet 14 (mOp dIx (mVar 1) (mOp dMod (mB gInt (aCons (mOp dIx (mVar 10) (mC (.int 2))) aNil)) (mB gLen (aCons (mVar 1) aNil)))))
  (sIf (tCmp (mOp (dIn true) (mTup (aCons (mVar 11) (aCons (mVar 13) aNil))) (mComp false (iVal (mVar 8)) (.nm 17) [17] tYesM (mCut false (mVar 17) pNo (pYes (mC (.int 2)))))))
  (sExpr (mMt kAppend (mVar 8) (aCons (mTup (aCons (mVar 11) (aCons (mVar 13) (aCons (mVar 14) (aCons (mOp dIx (mVar 10) (mC (.int 3))) (aCons (mOp dIx (mVar 3) (mOp dIx (mVar 10) (mC (.int 4)))) (aCons (mB gTuple (aCons (mVar 12) aNil)) aNil))))))) aNil)))
  sNil)))
  sNil)))))
  (sRet (mTup (aCons (mB gTuple (aCons (mVar 1) aNil)) (aCons (mB gTuple (aCons (mVar 6) aNil)) (aCons (mB gTuple (aCons (mVar 8) aNil)) aNil))))))))))))
noncomputable def b__law_same : MS :=
  (sSeq (sIf (tCmp (mUn (dIsN false) (mVar 1)))
  (sRet (mUn (dIsN false) (mVar 0)))
  sNil)
  (sSeq (sIf (tVal (mUn (dIs .tuple) (mVar 1)))
  (sSeq (sIf (tOr (tNot (tVal (mUn (dIs .tuple) (mVar 0)))) (tCmp (mOp (dEq true) (mB gLen (aCons (mVar 0) aNil)) (mB gLen (aCons (mVar 1) aNil)))))
  (sRet (mC (.bl false)))
  sNil)
  (sRet (mB gEvery (aCons (mComp false (iRng1 (mB gLen (aCons (mVar 1) aNil))) (.nm 2) [2] tYesM (mCall 18 (aCons (mOp dIx (mVar 0) (mVar 2)) (aCons (mOp dIx (mVar 1) (mVar 2)) aNil)))) aNil))))
  sNil)
  (sSeq (sIf (tVal (mUn (dIs .str) (mVar 1)))
  (sRet (mAnd (mUn (dIs .str) (mVar 0)) (mOp (dEq false) (mVar 0) (mVar 1))))
  sNil)
  (sSeq (sIf (tVal (mUn (dIs .bool) (mVar 1)))
  (sRet (mAnd (mUn (dIs .bool) (mVar 0)) (mOp (dEq false) (mVar 0) (mVar 1))))
  sNil)
  (sRet (mAnd (mUn (dIs .int) (mVar 0)) (mAnd (mUn dNot (mUn (dIs .bool) (mVar 0))) (mOp (dEq false) (mVar 0) (mVar 1)))))))))
noncomputable def b__law_reach : MS :=
  (sSeq (sSet 3 (mLst true (aCons (mVar 1) aNil)))
  (sSeq (sFor (iRng1 (mC (.int 8))) (.nm 4)
  (sIf (tCmp (mOp dLt (mVar 4) (mB gLen (aCons (mVar 3) aNil))))
  (sFor (iVal (mOp dIx (mVar 0) (mC (.int 2)))) (.nm 5)
  (sIf (tAnd (tCmp (mOp (dEq false) (mOp dIx (mVar 5) (mC (.int 1))) (mOp dIx (mVar 3) (mVar 4)))) (tAnd (tCmp (mOp (dIn true) (mOp dIx (mVar 5) (mC (.int 2))) (mVar 3))) (tCmp (mOp (dEq true) (mOp dIx (mVar 5) (mC (.int 2))) (mVar 2)))))
  (sExpr (mMt kAppend (mVar 3) (aCons (mOp dIx (mVar 5) (mC (.int 2))) aNil)))
  sNil))
  sNil))
  (sRet (mVar 3))))
noncomputable def b__law_saved : MS :=
  (sRet (mB gSome (aCons (mComp false (iVal (mCall 19 (aCons (mVar 0) (aCons (mVar 1) (aCons (mVar 2) aNil))))) (.nm 3) [3] tYesM (mOp (dIn false) (mVar 3) (mOp dIx (mVar 0) (mC (.int 1))))) aNil)))
noncomputable def b__law_shortest : MS :=
  (sSeq (sSet 3 (mDict1 (mVar 1) (mTup aNil)))
  (sSeq (sFor (iRng1 (mC (.int 8))) (.nm 4)
  (sSeq (sIf (tCmp (mOp (dIn false) (mVar 2) (mVar 3)))
  (sRet (mOp dIx (mVar 3) (mVar 2)))
  sNil)
  (sSeq (sSet 5 mDict0)
  (sSeq (sFor (iVal (mOp dIx (mVar 0) (mC (.int 2)))) (.nm 6)
  (sIf (tCmp (mOp (dIn false) (mOp dIx (mVar 6) (mC (.int 1))) (mVar 3)))
  (sSeq (sSet 7 (mOp (dAdd false) (mOp dIx (mVar 3) (mOp dIx (mVar 6) (mC (.int 1)))) (mTup (aCons (mOp dIx (mVar 6) (mC (.int 0))) aNil))))
  (sIf (tOr (tCmp (mOp (dIn true) (mOp dIx (mVar 6) (mC (.int 2))) (mVar 5))) (tCmp (mOp dLtT (mVar 7) (mOp dIx (mVar 5) (mOp dIx (mVar 6) (mC (.int 2)))))))
  (sPut (mVar 5) (mOp dIx (mVar 6) (mC (.int 2))) (mVar 7))
  sNil))
  sNil))
  (sSet 3 (mVar 5))))))
  (sRet (mC .non))))
noncomputable def b__law_counted : MS :=
  (sSeq (sSet 4 (mDict1 (mVar 2) (mC (.int 1))))
  (sSeq (sFor (iRng1 (mVar 3)) (.nm 5)
  (sSeq (sSet 6 mDict0)
  (sSeq (sFor (iVal (mOp dIx (mVar 0) (mC (.int 2)))) (.nm 7)
  (sIf (tCmp (mOp (dIn false) (mOp dIx (mVar 7) (mC (.int 2))) (mVar 4)))
  (sPut (mVar 6) (mOp dIx (mVar 7) (mC (.int 1))) (mOp (dAdd false) (mMt kGet (mVar 6) (aCons (mOp dIx (mVar 7) (mC (.int 1))) (aCons (mC (.int 0)) aNil))) (mOp dIx (mVar 4) (mOp dIx (mVar 7) (mC (.int 2))))))
  sNil))
  (sSet 4 (mVar 6)))))
  (sRet (mMt kGet (mVar 4) (aCons (mVar 1) (aCons (mC (.int 0)) aNil))))))
noncomputable def b__law_least : MS :=
  (sSeq (sSet 2 (mDict1 (mVar 1) (mC (.int 0))))
  (sSeq (sFor (iRng1 (mC (.int 8))) (.nm 3)
  (sFor (iVal (mOp dIx (mVar 0) (mC (.int 2)))) (.nm 5)
  (sIf (tAnd (tCmp (mOp (dIn false) (mOp dIx (mVar 5) (mC (.int 1))) (mVar 2))) (tCmp (mOp dLt (mOp (dAdd false) (mOp dIx (mVar 2) (mOp dIx (mVar 5) (mC (.int 1)))) (mOp dIx (mVar 5) (mC (.int 3)))) (mMt kGet (mVar 2) (aCons (mOp dIx (mVar 5) (mC (.int 2))) (aCons (mOp dPow (mC (.int 10)) (mC (.int 6))) aNil))))))
  (sPut (mVar 2) (mOp dIx (mVar 5) (mC (.int 2))) (mOp (dAdd false) (mOp dIx (mVar 2) (mOp dIx (mVar 5) (mC (.int 1)))) (mOp dIx (mVar 5) (mC (.int 3)))))
  sNil)))
  (sSeq (sSet 4 (mComp false (iVal (mOp dIx (mVar 0) (mC (.int 1)))) (.nm 6) [6] (tCmp (mOp (dIn false) (mVar 6) (mVar 2))) (mOp dIx (mVar 2) (mVar 6))))
  (sSeq (sIf (tCmp (mOp (dEq false) (mB gLen (aCons (mVar 4) aNil)) (mC (.int 0))))
  (sRet (mC .non))
  sNil)
  (sRet (mB gMinL (aCons (mVar 4) aNil)))))))
noncomputable def b__law_trip : MS :=
  (sSeq (sSet 4 (mLst true aNil))
  (sSeq (sSet 5 (mVar 1))
  (sSeq (sFor (iRng1 (mOp dIx (mVar 2) (mC (.int 0)))) (.nm 6)
  (sSeq (sSet 7 (mComp false (iVal (mOp dIx (mVar 0) (mC (.int 2)))) (.nm 8) [8] (tCmp (mOp (dEq false) (mOp dIx (mVar 8) (mC (.int 1))) (mVar 5))) (mVar 8)))
  (sIf (tOr (tCmp (mOp (dEq false) (mB gLen (aCons (mVar 7) aNil)) (mC (.int 0)))) (tCmp (mOp (dEq false) (mOp dIx (mVar 2) (mOp (dAdd false) (mC (.int 1)) (mOp (dMul false) (mC (.int 2)) (mVar 6)))) (mC (.int 0)))))
  (sExpr (mMt kAppend (mVar 4) (aCons (mOp dIx (mVar 3) (mOp dIx (mVar 2) (mOp (dAdd false) (mC (.int 2)) (mOp (dMul false) (mC (.int 2)) (mVar 6))))) aNil)))
  (sSeq (sSet 8 (mOp dIx (mVar 7) (mOp dMod (mB gInt (aCons (mOp dIx (mVar 2) (mOp (dAdd false) (mC (.int 2)) (mOp (dMul false) (mC (.int 2)) (mVar 6)))) aNil)) (mB gLen (aCons (mVar 7) aNil)))))
  (sSeq (sExpr (mMt kAppend (mVar 4) (aCons (mOp dIx (mVar 8) (mC (.int 0))) aNil)))
  (sSet 5 (mOp dIx (mVar 8) (mC (.int 2)))))))))
  (sRet (mB gTuple (aCons (mVar 4) aNil))))))
noncomputable def b__law_along : MS :=
  (sSeq (sSet 3 (mVar 1))
  (sSeq (sFor (iVal (mVar 2)) (.nm 4)
  (sSeq (sSet 5 (mComp false (iVal (mOp dIx (mVar 0) (mC (.int 2)))) (.nm 6) [6] (tAnd (tCmp (mOp (dEq false) (mOp dIx (mVar 6) (mC (.int 1))) (mVar 3))) (tCmp (mOp (dEq false) (mOp dIx (mVar 6) (mC (.int 0))) (mVar 4)))) (mOp dIx (mVar 6) (mC (.int 2)))))
  (sSeq (sIf (tCmp (mOp (dEq false) (mB gLen (aCons (mVar 5) aNil)) (mC (.int 0))))
  (sRet (mC .non))
  sNil)
  (sSet 3 (mOp dIx (mVar 5) (mC (.int 0)))))))
  (sRet (mVar 3))))
noncomputable def b__law_asked : MS :=
  (sSeq (sIf (tCmp (mOp (dEq false) (mVar 0) (mC (.int 0))))
  (sRet (mCall 5 (aCons (mVar 1) (aCons (mVar 2) aNil))))
  sNil)
  (sSeq (sIf (tCmp (mOp (dEq false) (mVar 0) (mC (.int 1))))
  (sRet (mCall 12 (aCons (mVar 1) (aCons (mVar 2) aNil))))
  sNil)
  (sSeq (sIf (tCmp (mOp (dEq false) (mVar 0) (mC (.int 2))))
  (sRet (mCall 13 (aCons (mVar 1) (aCons (mVar 2) aNil))))
  sNil)
  (sSeq (sIf (tCmp (mOp (dEq false) (mVar 0) (mC (.int 3))))
  (sRet (mCall 10 (aCons (mVar 1) (aCons (mVar 2) (aCons (mVar 3) aNil)))))
  sNil)
  (sSeq (sIf (tCmp (mOp (dEq false) (mVar 0) (mC (.int 4))))
  (sRet (mCall 11 (aCons (mVar 1) (aCons (mVar 2) (aCons (mVar 3) (aCons (mVar 4) aNil))))))
  sNil)
  (sRet (mCall 9 (aCons (mVar 1) (aCons (mVar 2) (aCons (mVar 4) aNil))))))))))
noncomputable def b__law_told : MS :=
  (sSeq (sTries nmf (sRet (mTup (aCons (mC (.str [97, 110, 115, 119, 101, 114])) (aCons (mCall 26 (aCons (mVar 0) (aCons (mVar 1) (aCons (mVar 2) (aCons (mVar 3) (aCons (mVar 4) aNil)))))) aNil))))
  [⟨(fun k => ([false, true, false] : List Bool)[k]?), some 5,
  fun a d k => (sIf (tAnd (tVal (mUn (dIsX a d (([true, true, true] : List Bool).getD k false)) (mVar 5))) (tVal (mUn (dIsX a d (([true, true, true] : List Bool).getD k false)) (mVar 5))))
  (sRet (mTup (aCons (mC (.str [109, 105, 115, 115, 105, 110, 103])) (aCons (mUn (dFld a d (nmf k) "name") (mVar 5)) aNil))))
  sNil)⟩,
  ⟨(fun k => ([true, false, false] : List Bool)[k]?), some 5,
  fun a d k => (sIf (tAnd (tVal (mUn (dIsX a d (([true, true, true] : List Bool).getD k false)) (mVar 5))) (tVal (mUn (dIsX a d (([true, true, true] : List Bool).getD k false)) (mVar 5))))
  (sRet (mTup (aCons (mC (.str [118, 97, 108, 117, 101])) (aCons (mUn (dFld a d (nmf k) "what") (mVar 5)) aNil))))
  sNil)⟩,
  ⟨(fun k => ([false, false, true] : List Bool)[k]?), some 5,
  fun a d k => (sIf (tAnd (tVal (mUn (dIsX a d (([true, true, true] : List Bool).getD k false)) (mVar 5))) (tVal (mUn (dIsX a d (([true, true, true] : List Bool).getD k false)) (mVar 5))))
  (sRet (mTup (aCons (mC (.str [114, 101, 102, 117, 115, 101, 100])) (aCons (mUn (dFld a d (nmf k) "reason") (mVar 5)) aNil))))
  sNil)⟩])
  (sRet (mTup (aCons (mC (.str [111, 100, 100])) (aCons (mC (.str [])) aNil)))))
noncomputable def b__law_state_told : MS :=
  (sSeq (sSet 2 (mCall 19 (aCons (mVar 0) (aCons (mVar 1) (aCons (mC (.str [])) aNil)))))
  (sSeq (sSet 3 (mTup (aCons (mC (.str [97, 110, 115, 119, 101, 114])) (aCons (mB gTuple (aCons (mComp false (iVal (mOp dIx (mVar 0) (mC (.int 0)))) (.nm 4) [4] (tCmp (mOp (dIn false) (mVar 4) (mVar 2))) (mVar 4)) aNil)) aNil))))
  (sSeq (sIf (tNot (tVal (mCall 18 (aCons (mCall 27 (aCons (mC (.int 0)) (aCons (mVar 0) (aCons (mVar 1) (aCons (mC (.str [])) (aCons (mC (.int 0)) aNil)))))) (aCons (mVar 3) aNil)))))
  (sRet (mC (.bl false)))
  sNil)
  (sSeq (sSet 3 (mTup (aCons (mC (.str [114, 101, 102, 117, 115, 101, 100])) (aCons (mC (.str [100, 101, 97, 100])) aNil))))
  (sSeq (sIf (tVal (mCall 20 (aCons (mVar 0) (aCons (mVar 1) (aCons (mC (.str [])) aNil)))))
  (sSet 3 (mTup (aCons (mC (.str [97, 110, 115, 119, 101, 114])) (aCons (mB gTuple (aCons (mComp false (iVal (mOp dIx (mVar 0) (mC (.int 0)))) (.nm 4) [4] (tOr (tCmp (mOp (dEq false) (mVar 4) (mVar 1))) (tNot (tVal (mCall 20 (aCons (mVar 0) (aCons (mVar 1) (aCons (mVar 4) aNil))))))) (mVar 4)) aNil)) aNil))))
  sNil)
  (sSeq (sIf (tNot (tVal (mCall 18 (aCons (mCall 27 (aCons (mC (.int 1)) (aCons (mVar 0) (aCons (mVar 1) (aCons (mC (.str [])) (aCons (mC (.int 0)) aNil)))))) (aCons (mVar 3) aNil)))))
  (sRet (mC (.bl false)))
  sNil)
  (sRet (mCall 18 (aCons (mCall 27 (aCons (mC (.int 2)) (aCons (mVar 0) (aCons (mVar 1) (aCons (mC (.str [])) (aCons (mC (.int 0)) aNil)))))) (aCons (mTup (aCons (mC (.str [97, 110, 115, 119, 101, 114])) (aCons (mCall 23 (aCons (mVar 0) (aCons (mVar 1) aNil))) aNil))) aNil))))))))))
noncomputable def b__law_pair_told : MS :=
  (sSeq (sIf (tNot (tVal (mCall 18 (aCons (mCall 27 (aCons (mC (.int 3)) (aCons (mVar 0) (aCons (mVar 1) (aCons (mVar 2) (aCons (mC (.int 0)) aNil)))))) (aCons (mTup (aCons (mC (.str [97, 110, 115, 119, 101, 114])) (aCons (mCall 21 (aCons (mVar 0) (aCons (mVar 1) (aCons (mVar 2) aNil)))) aNil))) aNil)))))
  (sRet (mC (.bl false)))
  sNil)
  (sSeq (sSet 4 (mTup (aCons (mC (.str [118, 97, 108, 117, 101])) (aCons (mC (.str [108, 101, 110, 103, 116, 104])) aNil))))
  (sSeq (sIf (tAnd (tCmp (mOp dLe (mC (.int 0)) (mVar 3))) (tCmp (mOp dLe (mVar 3) (mC (.int 30)))))
  (sSet 4 (mTup (aCons (mC (.str [97, 110, 115, 119, 101, 114])) (aCons (mCall 22 (aCons (mVar 0) (aCons (mVar 1) (aCons (mVar 2) (aCons (mVar 3) aNil))))) aNil))))
  sNil)
  (sRet (mCall 18 (aCons (mCall 27 (aCons (mC (.int 4)) (aCons (mVar 0) (aCons (mVar 1) (aCons (mVar 2) (aCons (mVar 3) aNil)))))) (aCons (mVar 4) aNil)))))))
noncomputable def b__law_strangers_told : MS :=
  (sSeq (sFor (iVal (mLst false (aCons (mC (.int 0)) (aCons (mC (.int 1)) (aCons (mC (.int 2)) aNil))))) (.nm 6)
  (sIf (tNot (tVal (mCall 18 (aCons (mCall 27 (aCons (mVar 6) (aCons (mVar 0) (aCons (mVar 2) (aCons (mVar 3) (aCons (mVar 4) aNil)))))) (aCons (mTup (aCons (mC (.str [109, 105, 115, 115, 105, 110, 103])) (aCons (mVar 2) aNil))) aNil)))))
  (sRet (mC (.bl false)))
  sNil))
  (sSeq (sIf (tNot (tVal (mCall 18 (aCons (mCall 27 (aCons (mC (.int 5)) (aCons (mVar 0) (aCons (mVar 3) (aCons (mC (.str [])) (aCons (mVar 5) aNil)))))) (aCons (mTup (aCons (mC (.str [109, 105, 115, 115, 105, 110, 103])) (aCons (mVar 3) aNil))) aNil)))))
  (sRet (mC (.bl false)))
  sNil)
  (sSeq (sFor (iVal (mLst false (aCons (mC (.int 3)) (aCons (mC (.int 4)) aNil)))) (.nm 6)
  (sSeq (sIf (tNot (tVal (mCall 18 (aCons (mCall 27 (aCons (mVar 6) (aCons (mVar 0) (aCons (mVar 2) (aCons (mVar 1) (aCons (mVar 4) aNil)))))) (aCons (mTup (aCons (mC (.str [109, 105, 115, 115, 105, 110, 103])) (aCons (mVar 2) aNil))) aNil)))))
  (sRet (mC (.bl false)))
  sNil)
  (sSeq (sIf (tNot (tVal (mCall 18 (aCons (mCall 27 (aCons (mVar 6) (aCons (mVar 0) (aCons (mVar 1) (aCons (mVar 3) (aCons (mVar 4) aNil)))))) (aCons (mTup (aCons (mC (.str [109, 105, 115, 115, 105, 110, 103])) (aCons (mVar 3) aNil))) aNil)))))
  (sRet (mC (.bl false)))
  sNil)
  (sIf (tNot (tVal (mCall 18 (aCons (mCall 27 (aCons (mVar 6) (aCons (mVar 0) (aCons (mVar 3) (aCons (mVar 2) (aCons (mVar 4) aNil)))))) (aCons (mTup (aCons (mC (.str [109, 105, 115, 115, 105, 110, 103])) (aCons (mVar 3) aNil))) aNil)))))
  (sRet (mC (.bl false)))
  sNil))))
  (sRet (mC (.bl true))))))
noncomputable def b_law : MS :=
  (sSeq (sSet 1 (mCall 16 (aCons (mCall 14 (aCons (mVar 0) (aCons (mC (.int 1)) aNil))) (aCons (mC (.int 10)) aNil))))
  (sSeq (sSet 2 (mCall 16 (aCons (mCall 14 (aCons (mVar 0) (aCons (mC (.int 2)) aNil))) (aCons (mC (.int 16)) aNil))))
  (sSeq (sSet 3 (mOp (dAdd false) (mLst false (aCons (mC (.str [])) aNil)) (mCall 16 (aCons (mCall 14 (aCons (mVar 0) (aCons (mC (.int 3)) aNil))) (aCons (mC (.int 3)) aNil)))))
  (sSeq (sSet 4 (mCall 17 (aCons (mCall 14 (aCons (mVar 0) (aCons (mC (.int 4)) aNil))) (aCons (mCut false (mVar 1) pNo (pYes (mC (.int 8)))) (aCons (mVar 2) (aCons (mVar 3) aNil))))))
  (sSeq (sSet 5 (mCall 15 (aCons (mCall 14 (aCons (mVar 0) (aCons (mC (.int 0)) aNil))) (aCons (mLst false (aCons (mC (.int 8)) (aCons (mC (.int 34)) (aCons (mC (.int 12)) aNil)))) aNil))))
  (sSeq (sSet 6 (mOp dIx (mOp dIx (mVar 4) (mC (.int 0))) (mOp dMod (mB gInt (aCons (mOp dIx (mVar 5) (mC (.int 0))) aNil)) (mB gLen (aCons (mOp dIx (mVar 4) (mC (.int 0))) aNil)))))
  (sSeq (sSet 7 (mOp dSub (mOp dIx (mVar 5) (mC (.int 1))) (mC (.int 2))))
  (sSeq (sIf (tCmp (mOp (dEq false) (mOp dIx (mVar 5) (mC (.int 2))) (mC (.int 0))))
  (sSet 7 (mOp dPow (mC (.int 10)) (mC (.int 20))))
  sNil)
  (sSeq (sSet 8 (mB gTuple (aCons (mComp false (iVal (mOp dIx (mVar 4) (mC (.int 0)))) (.nm 9) [9] (tNot (tVal (mCall 20 (aCons (mVar 4) (aCons (mVar 9) (aCons (mC (.str [])) aNil)))))) (mVar 9)) aNil)))
  (sSeq (sIf (tNot (tVal (mCall 18 (aCons (mCall 7 (aCons (mVar 4) aNil)) (aCons (mVar 8) aNil)))))
  (sRet (mC (.bl false)))
  sNil)
  (sSeq (sFor (iVal (mOp dIx (mVar 4) (mC (.int 0)))) (.nm 9)
  (sIf (tOr (tNot (tVal (mCall 28 (aCons (mVar 4) (aCons (mVar 9) aNil))))) (tNot (tVal (mCall 29 (aCons (mVar 4) (aCons (mVar 6) (aCons (mVar 9) (aCons (mVar 7) aNil))))))))
  (sRet (mC (.bl false)))
  sNil))
  (sSeq (sSet 10 (mCall 24 (aCons (mVar 4) (aCons (mVar 6) (aCons (mCall 15 (aCons (mCall 14 (aCons (mVar 0) (aCons (mC (.int 5)) aNil))) (aCons (mOp (dAdd false) (mLst false (aCons (mC (.int 13)) aNil)) (mOp (dMul false) (mLst false (aCons (mC (.int 6)) (aCons (mC (.int 16)) aNil))) (mC (.int 12)))) aNil))) (aCons (mVar 2) aNil))))))
  (sSeq (sIf (tNot (tVal (mCall 18 (aCons (mCall 27 (aCons (mC (.int 5)) (aCons (mVar 4) (aCons (mVar 6) (aCons (mC (.str [])) (aCons (mVar 10) aNil)))))) (aCons (mTup (aCons (mC (.str [97, 110, 115, 119, 101, 114])) (aCons (mCall 25 (aCons (mVar 4) (aCons (mVar 6) (aCons (mVar 10) aNil)))) aNil))) aNil)))))
  (sRet (mC (.bl false)))
  sNil)
  (sRet (mCall 30 (aCons (mVar 4) (aCons (mVar 6) (aCons (mOp dIx (mVar 1) (mC (.int 8))) (aCons (mOp dIx (mVar 1) (mC (.int 9))) (aCons (mVar 7) (aCons (mVar 10) aNil)))))))))))))))))))))
noncomputable def tab : Tab := [
  (("is_whole" : Str), [("value" : Str)], ⟨1, 1, b_is_whole⟩),
  (("is_between" : Str), [("value" : Str), ("low" : Str), ("high" : Str)], ⟨3, 3, b_is_between⟩),
  (("require_state" : Str), [("flow" : Str), ("state" : Str)], ⟨2, 2, b_require_state⟩),
  (("ways_from" : Str), [("flow" : Str), ("state" : Str)], ⟨2, 3, b_ways_from⟩),
  (("find_way" : Str), [("flow" : Str), ("state" : Str), ("name" : Str)], ⟨3, 4, b_find_way⟩),
  (("reachable" : Str), [("flow" : Str), ("state" : Str)], ⟨2, 7, b_reachable⟩),
  (("reaches_closed" : Str), [("flow" : Str), ("state" : Str), ("avoided" : Str)], ⟨3, 7, b_reaches_closed⟩),
  (("dead_states" : Str), [("flow" : Str)], ⟨1, 2, b_dead_states⟩),
  (("distances" : Str), [("flow" : Str), ("target" : Str)], ⟨2, 5, b_distances⟩),
  (("walk_along" : Str), [("flow" : Str), ("state" : Str), ("names" : Str)], ⟨3, 6, b_walk_along⟩),
  (("shortest_walk" : Str), [("flow" : Str), ("source" : Str), ("target" : Str)], ⟨3, 10, b_shortest_walk⟩),
  (("count_walks" : Str), [("flow" : Str), ("source" : Str), ("target" : Str), ("length" : Str)], ⟨4, 8, b_count_walks⟩),
  (("must_pass" : Str), [("flow" : Str), ("state" : Str)], ⟨2, 3, b_must_pass⟩),
  (("least_days" : Str), [("flow" : Str), ("state" : Str)], ⟨2, 6, b_least_days⟩),
  (("_law_cell" : Str), [("script" : Str), ("k" : Str)], ⟨2, 2, b__law_cell⟩),
  (("_law_digits" : Str), [("cell" : Str), ("sizes" : Str)], ⟨2, 5, b__law_digits⟩),
  (("_law_names" : Str), [("cell" : Str), ("count" : Str)], ⟨2, 13, b__law_names⟩),
  (("_law_flow" : Str), [("cell" : Str), ("states" : Str), ("names" : Str), ("roles" : Str)], ⟨4, 18, b__law_flow⟩),
  (("_law_same" : Str), [("told" : Str), ("due" : Str)], ⟨2, 3, b__law_same⟩),
  (("_law_reach" : Str), [("flow" : Str), ("state" : Str), ("avoided" : Str)], ⟨3, 6, b__law_reach⟩),
  (("_law_saved" : Str), [("flow" : Str), ("state" : Str), ("avoided" : Str)], ⟨3, 4, b__law_saved⟩),
  (("_law_shortest" : Str), [("flow" : Str), ("source" : Str), ("target" : Str)], ⟨3, 8, b__law_shortest⟩),
  (("_law_counted" : Str), [("flow" : Str), ("source" : Str), ("target" : Str), ("length" : Str)], ⟨4, 8, b__law_counted⟩),
  (("_law_least" : Str), [("flow" : Str), ("state" : Str)], ⟨2, 7, b__law_least⟩),
  (("_law_trip" : Str), [("flow" : Str), ("state" : Str), ("row" : Str), ("names" : Str)], ⟨4, 9, b__law_trip⟩),
  (("_law_along" : Str), [("flow" : Str), ("state" : Str), ("trip" : Str)], ⟨3, 7, b__law_along⟩),
  (("_law_asked" : Str), [("which" : Str), ("flow" : Str), ("state" : Str), ("other" : Str), ("more" : Str)], ⟨5, 5, b__law_asked⟩),
  (("_law_told" : Str), [("which" : Str), ("flow" : Str), ("state" : Str), ("other" : Str), ("more" : Str)], ⟨5, 6, b__law_told⟩),
  (("_law_state_told" : Str), [("flow" : Str), ("state" : Str)], ⟨2, 5, b__law_state_told⟩),
  (("_law_pair_told" : Str), [("flow" : Str), ("state" : Str), ("other" : Str), ("length" : Str)], ⟨4, 5, b__law_pair_told⟩),
  (("_law_strangers_told" : Str), [("flow" : Str), ("state" : Str), ("first" : Str), ("second" : Str), ("length" : Str), ("trip" : Str)], ⟨6, 7, b__law_strangers_told⟩),
  (("law" : Str), [("script" : Str)], ⟨1, 11, b_law⟩)]
structure Good (P : Program) (w : World) (K : Frag) (mg : Str → Option Value) (CL : List XC) where
  n_ValueError : mg "ValueError" = none
  n_all : mg "all" = none
  n_any : mg "any" = none
  n_bool : mg "bool" = none
  n_int : mg "int" = none
  n_isinstance : mg "isinstance" = none
  n_len : mg "len" = none
  n_min : mg "min" = none
  n_range : mg "range" = none
  n_str : mg "str" = none
  n_super : mg "super" = none
  n_tuple : mg "tuple" = none
  c_MOST_LENGTH : GlobIs K mg "MOST_LENGTH" k_MOST_LENGTH
  c_NEVER : GlobIs K mg "NEVER" k_NEVER
  a_BadValue : Addr
  g_BadValue : mg "BadValue" = some (.ref a_BadValue)
  a_Missing : Addr
  g_Missing : mg "Missing" = some (.ref a_Missing)
  a_Refused : Addr
  g_Refused : mg "Refused" = some (.ref a_Refused)
  a_SnagError : Addr
  g_SnagError : mg "SnagError" = some (.ref a_SnagError)
  f_BadValue : Addr × Addr × Addr
  x_BadValue : XTxt K P a_BadValue ["what"] f_BadValue.1 f_BadValue.2.1 f_BadValue.2.2
  hc_BadValue : CL[0]? = some ⟨a_BadValue, ["what"]⟩
  f_Missing : Addr × Addr × Addr
  x_Missing : XTxt K P a_Missing ["name"] f_Missing.1 f_Missing.2.1 f_Missing.2.2
  hc_Missing : CL[1]? = some ⟨a_Missing, ["name"]⟩
  f_Refused : Addr × Addr × Addr
  x_Refused : XTxt K P a_Refused ["reason"] f_Refused.1 f_Refused.2.1 f_Refused.2.2
  hc_Refused : CL[2]? = some ⟨a_Refused, ["reason"]⟩
  xall : XAll K CL nmf
  e_BadValue : ∀ (k : Nat) (y : XC) (b : Bool), CL[k]? = some y → ([true, false, false] : List Bool)[k]? = some b → PySem.W.exmOne K (.ref y.addr) (.ref a_BadValue) = some b
  i_BadValue : ∀ (k : Nat) (y : XC), CL[k]? = some y → PySem.W.kitOne K (.ref y.addr) (.ref a_BadValue) = some (([true, false, false] : List Bool).getD k false)
  e_Missing : ∀ (k : Nat) (y : XC) (b : Bool), CL[k]? = some y → ([false, true, false] : List Bool)[k]? = some b → PySem.W.exmOne K (.ref y.addr) (.ref a_Missing) = some b
  i_Missing : ∀ (k : Nat) (y : XC), CL[k]? = some y → PySem.W.kitOne K (.ref y.addr) (.ref a_Missing) = some (([false, true, false] : List Bool).getD k false)
  e_Refused : ∀ (k : Nat) (y : XC) (b : Bool), CL[k]? = some y → ([false, false, true] : List Bool)[k]? = some b → PySem.W.exmOne K (.ref y.addr) (.ref a_Refused) = some b
  i_Refused : ∀ (k : Nat) (y : XC), CL[k]? = some y → PySem.W.kitOne K (.ref y.addr) (.ref a_Refused) = some (([false, false, true] : List Bool).getD k false)
  e_SnagError : ∀ (k : Nat) (y : XC) (b : Bool), CL[k]? = some y → ([true, true, true] : List Bool)[k]? = some b → PySem.W.exmOne K (.ref y.addr) (.ref a_SnagError) = some b
  i_SnagError : ∀ (k : Nat) (y : XC), CL[k]? = some y → PySem.W.kitOne K (.ref y.addr) (.ref a_SnagError) = some (([true, true, true] : List Bool).getD k false)
  i_ValueError : ∀ (k : Nat) (y : XC), CL[k]? = some y → PySem.W.kitOne K (.ref y.addr) (.type "ValueError") = some (([true, true, true] : List Bool).getD k false)
section
variable {P : Program} {w : World} {K : Frag} {mg : Str → Option Value} {base : Heap} {CL : List XC} {c : Calls} {k : Nat}
theorem ok_is_whole (ok : AllOk P w K mg base CL tab k c) : CalleeOk P w K mg base CL k (c 0) "is_whole" [("value" : Str)] := ok 0 _ rfl
theorem ok_is_between (ok : AllOk P w K mg base CL tab k c) : CalleeOk P w K mg base CL k (c 1) "is_between" [("value" : Str), ("low" : Str), ("high" : Str)] := ok 1 _ rfl
theorem ok_require_state (ok : AllOk P w K mg base CL tab k c) : CalleeOk P w K mg base CL k (c 2) "require_state" [("flow" : Str), ("state" : Str)] := ok 2 _ rfl
theorem ok_ways_from (ok : AllOk P w K mg base CL tab k c) : CalleeOk P w K mg base CL k (c 3) "ways_from" [("flow" : Str), ("state" : Str)] := ok 3 _ rfl
theorem ok_find_way (ok : AllOk P w K mg base CL tab k c) : CalleeOk P w K mg base CL k (c 4) "find_way" [("flow" : Str), ("state" : Str), ("name" : Str)] := ok 4 _ rfl
theorem ok_reachable (ok : AllOk P w K mg base CL tab k c) : CalleeOk P w K mg base CL k (c 5) "reachable" [("flow" : Str), ("state" : Str)] := ok 5 _ rfl
theorem ok_reaches_closed (ok : AllOk P w K mg base CL tab k c) : CalleeOk P w K mg base CL k (c 6) "reaches_closed" [("flow" : Str), ("state" : Str), ("avoided" : Str)] := ok 6 _ rfl
theorem ok_dead_states (ok : AllOk P w K mg base CL tab k c) : CalleeOk P w K mg base CL k (c 7) "dead_states" [("flow" : Str)] := ok 7 _ rfl
theorem ok_distances (ok : AllOk P w K mg base CL tab k c) : CalleeOk P w K mg base CL k (c 8) "distances" [("flow" : Str), ("target" : Str)] := ok 8 _ rfl
theorem ok_walk_along (ok : AllOk P w K mg base CL tab k c) : CalleeOk P w K mg base CL k (c 9) "walk_along" [("flow" : Str), ("state" : Str), ("names" : Str)] := ok 9 _ rfl
theorem ok_shortest_walk (ok : AllOk P w K mg base CL tab k c) : CalleeOk P w K mg base CL k (c 10) "shortest_walk" [("flow" : Str), ("source" : Str), ("target" : Str)] := ok 10 _ rfl
theorem ok_count_walks (ok : AllOk P w K mg base CL tab k c) : CalleeOk P w K mg base CL k (c 11) "count_walks" [("flow" : Str), ("source" : Str), ("target" : Str), ("length" : Str)] := ok 11 _ rfl
theorem ok_must_pass (ok : AllOk P w K mg base CL tab k c) : CalleeOk P w K mg base CL k (c 12) "must_pass" [("flow" : Str), ("state" : Str)] := ok 12 _ rfl
theorem ok_least_days (ok : AllOk P w K mg base CL tab k c) : CalleeOk P w K mg base CL k (c 13) "least_days" [("flow" : Str), ("state" : Str)] := ok 13 _ rfl
theorem ok__law_cell (ok : AllOk P w K mg base CL tab k c) : CalleeOk P w K mg base CL k (c 14) "_law_cell" [("script" : Str), ("k" : Str)] := ok 14 _ rfl
theorem ok__law_digits (ok : AllOk P w K mg base CL tab k c) : CalleeOk P w K mg base CL k (c 15) "_law_digits" [("cell" : Str), ("sizes" : Str)] := ok 15 _ rfl
theorem ok__law_names (ok : AllOk P w K mg base CL tab k c) : CalleeOk P w K mg base CL k (c 16) "_law_names" [("cell" : Str), ("count" : Str)] := ok 16 _ rfl
theorem ok__law_flow (ok : AllOk P w K mg base CL tab k c) : CalleeOk P w K mg base CL k (c 17) "_law_flow" [("cell" : Str), ("states" : Str), ("names" : Str), ("roles" : Str)] := ok 17 _ rfl
theorem ok__law_same (ok : AllOk P w K mg base CL tab k c) : CalleeOk P w K mg base CL k (c 18) "_law_same" [("told" : Str), ("due" : Str)] := ok 18 _ rfl
theorem ok__law_reach (ok : AllOk P w K mg base CL tab k c) : CalleeOk P w K mg base CL k (c 19) "_law_reach" [("flow" : Str), ("state" : Str), ("avoided" : Str)] := ok 19 _ rfl
theorem ok__law_saved (ok : AllOk P w K mg base CL tab k c) : CalleeOk P w K mg base CL k (c 20) "_law_saved" [("flow" : Str), ("state" : Str), ("avoided" : Str)] := ok 20 _ rfl
theorem ok__law_shortest (ok : AllOk P w K mg base CL tab k c) : CalleeOk P w K mg base CL k (c 21) "_law_shortest" [("flow" : Str), ("source" : Str), ("target" : Str)] := ok 21 _ rfl
theorem ok__law_counted (ok : AllOk P w K mg base CL tab k c) : CalleeOk P w K mg base CL k (c 22) "_law_counted" [("flow" : Str), ("source" : Str), ("target" : Str), ("length" : Str)] := ok 22 _ rfl
theorem ok__law_least (ok : AllOk P w K mg base CL tab k c) : CalleeOk P w K mg base CL k (c 23) "_law_least" [("flow" : Str), ("state" : Str)] := ok 23 _ rfl
theorem ok__law_trip (ok : AllOk P w K mg base CL tab k c) : CalleeOk P w K mg base CL k (c 24) "_law_trip" [("flow" : Str), ("state" : Str), ("row" : Str), ("names" : Str)] := ok 24 _ rfl
theorem ok__law_along (ok : AllOk P w K mg base CL tab k c) : CalleeOk P w K mg base CL k (c 25) "_law_along" [("flow" : Str), ("state" : Str), ("trip" : Str)] := ok 25 _ rfl
theorem ok__law_asked (ok : AllOk P w K mg base CL tab k c) : CalleeOk P w K mg base CL k (c 26) "_law_asked" [("which" : Str), ("flow" : Str), ("state" : Str), ("other" : Str), ("more" : Str)] := ok 26 _ rfl
theorem ok__law_told (ok : AllOk P w K mg base CL tab k c) : CalleeOk P w K mg base CL k (c 27) "_law_told" [("which" : Str), ("flow" : Str), ("state" : Str), ("other" : Str), ("more" : Str)] := ok 27 _ rfl
theorem ok__law_state_told (ok : AllOk P w K mg base CL tab k c) : CalleeOk P w K mg base CL k (c 28) "_law_state_told" [("flow" : Str), ("state" : Str)] := ok 28 _ rfl
theorem ok__law_pair_told (ok : AllOk P w K mg base CL tab k c) : CalleeOk P w K mg base CL k (c 29) "_law_pair_told" [("flow" : Str), ("state" : Str), ("other" : Str), ("length" : Str)] := ok 29 _ rfl
theorem ok__law_strangers_told (ok : AllOk P w K mg base CL tab k c) : CalleeOk P w K mg base CL k (c 30) "_law_strangers_told" [("flow" : Str), ("state" : Str), ("first" : Str), ("second" : Str), ("length" : Str), ("trip" : Str)] := ok 30 _ rfl
theorem ok_law (ok : AllOk P w K mg base CL tab k c) : CalleeOk P w K mg base CL k (c 31) "law" [("script" : Str)] := ok 31 _ rfl
abbrev N_is_whole : List Str := ["value"]
theorem d_is_whole (G : Good P w K mg CL) (hk : 23 ≤ k) (ok : AllOk P w K mg base CL tab k c) {f : Addr} {cdv : Value} {A : Around} {outer : List Env} {s : Shared} {H : Hp} {E : XK} (hr : Room k (A.deeper (envOfC "is_whole" (defScope (top 8)) s.heap.objs.size f cdv))) :
    DSs (cxOf (L2.CX P w) P w K mg base N_is_whole "is_whole" (defScope (top 8)) f cdv A outer s H E) CL (fun cls d _ H => E cls d H) c (defBody (top 8)) b_is_whole := by
  have hu := hu_of23 hr hk
  have nd : (N_is_whole).Nodup := by decide
  have tk : Takes (cxOf (L2.CX P w) P w K mg base N_is_whole "is_whole" (defScope (top 8)) f cdv A outer s H E) (fun cls d _ H => E cls d H) := takes_of rfl rfl rfl rfl
  have po : PassesOwn (model P w) (cxOf (L2.CX P w) P w K mg base N_is_whole "is_whole" (defScope (top 8)) f cdv A outer s H E).A (cxOf (L2.CX P w) P w K mg base N_is_whole "is_whole" (defScope (top 8)) f cdv A outer s H E).env (cxOf (L2.CX P w) P w K mg base N_is_whole "is_whole" (defScope (top 8)) f cdv A outer s H E).xe := passes_of rfl
  exact (ds_one (ds_ret (de_and (g_isi .int G.n_isinstance G.n_int (g_var 0)) (de_one (de_not (g_isi .bool G.n_isinstance G.n_bool (g_var 0)))))))
abbrev N_is_between : List Str := ["value", "low", "high"]
theorem d_is_between (G : Good P w K mg CL) (hk : 23 ≤ k) (ok : AllOk P w K mg base CL tab k c) {f : Addr} {cdv : Value} {A : Around} {outer : List Env} {s : Shared} {H : Hp} {E : XK} (hr : Room k (A.deeper (envOfC "is_between" (defScope (top 9)) s.heap.objs.size f cdv))) :
    DSs (cxOf (L2.CX P w) P w K mg base N_is_between "is_between" (defScope (top 9)) f cdv A outer s H E) CL (fun cls d _ H => E cls d H) c (defBody (top 9)) b_is_between := by
  have hu := hu_of23 hr hk
  have nd : (N_is_between).Nodup := by decide
  have tk : Takes (cxOf (L2.CX P w) P w K mg base N_is_between "is_between" (defScope (top 9)) f cdv A outer s H E) (fun cls d _ H => E cls d H) := takes_of rfl rfl rfl rfl
  have po : PassesOwn (model P w) (cxOf (L2.CX P w) P w K mg base N_is_between "is_between" (defScope (top 9)) f cdv A outer s H E).A (cxOf (L2.CX P w) P w K mg base N_is_between "is_between" (defScope (top 9)) f cdv A outer s H E).env (cxOf (L2.CX P w) P w K mg base N_is_between "is_between" (defScope (top 9)) f cdv A outer s H E).xe := passes_of rfl
  exact (ds_one (ds_ret (de_and (g_call (ok_is_whole ok) hr tk (g_cons (g_var 0) g_nil)) (de_one (g_lele (g_var 1) (g_var 0) (g_var 2))))))
abbrev N_require_state : List Str := ["flow", "state"]
theorem d_require_state (G : Good P w K mg CL) (hk : 23 ≤ k) (ok : AllOk P w K mg base CL tab k c) {f : Addr} {cdv : Value} {A : Around} {outer : List Env} {s : Shared} {H : Hp} {E : XK} (hr : Room k (A.deeper (envOfC "require_state" (defScope (top 11)) s.heap.objs.size f cdv))) :
    DSs (cxOf (L2.CX P w) P w K mg base N_require_state "require_state" (defScope (top 11)) f cdv A outer s H E) CL (fun cls d _ H => E cls d H) c (defBody (top 11)) b_require_state := by
  have hu := hu_of23 hr hk
  have nd : (N_require_state).Nodup := by decide
  have tk : Takes (cxOf (L2.CX P w) P w K mg base N_require_state "require_state" (defScope (top 11)) f cdv A outer s H E) (fun cls d _ H => E cls d H) := takes_of rfl rfl rfl rfl
  have po : PassesOwn (model P w) (cxOf (L2.CX P w) P w K mg base N_require_state "require_state" (defScope (top 11)) f cdv A outer s H E).A (cxOf (L2.CX P w) P w K mg base N_require_state "require_state" (defScope (top 11)) f cdv A outer s H E).env (cxOf (L2.CX P w) P w K mg base N_require_state "require_state" (defScope (top 11)) f cdv A outer s H E).xe := passes_of rfl
  exact (ds_one (ds_if (t_nin hu (g_var 1) (g_ix hu (g_var 0) de_int))
  (ds_one (ds_raise rfl tk G.x_Missing G.hc_Missing rfl (by decide) (by decide) hr (g_cons (g_var 1) g_nil) rfl G.g_Missing G.n_super (by decide) rfl rfl))
  ds_nil))
abbrev N_ways_from : List Str := ["flow", "state", "way"]
theorem d_ways_from (G : Good P w K mg CL) (hk : 23 ≤ k) (ok : AllOk P w K mg base CL tab k c) {f : Addr} {cdv : Value} {A : Around} {outer : List Env} {s : Shared} {H : Hp} {E : XK} (hr : Room k (A.deeper (envOfC "ways_from" (defScope (top 12)) s.heap.objs.size f cdv))) :
    DSs (cxOf (L2.CX P w) P w K mg base N_ways_from "ways_from" (defScope (top 12)) f cdv A outer s H E) CL (fun cls d _ H => E cls d H) c (defBody (top 12)) b_ways_from := by
  have hu := hu_of23 hr hk
  have nd : (N_ways_from).Nodup := by decide
  have tk : Takes (cxOf (L2.CX P w) P w K mg base N_ways_from "ways_from" (defScope (top 12)) f cdv A outer s H E) (fun cls d _ H => E cls d H) := takes_of rfl rfl rfl rfl
  have po : PassesOwn (model P w) (cxOf (L2.CX P w) P w K mg base N_ways_from "ways_from" (defScope (top 12)) f cdv A outer s H E).A (cxOf (L2.CX P w) P w K mg base N_ways_from "ways_from" (defScope (top 12)) f cdv A outer s H E).env (cxOf (L2.CX P w) P w K mg base N_ways_from "ways_from" (defScope (top 12)) f cdv A outer s H E).xe := passes_of rfl
  exact (ds_cons (s_expr (g_call (ok_require_state ok) hr tk (g_cons (g_var 0) (g_cons (g_var 1) g_nil))))
  (ds_one (ds_ret (g_tuple G.n_tuple (g_cons (g_comp [(("way" : Str), 2)] rfl nd (di_val (g_ix hu (g_var 0) de_int)) (fun s H C cl fp => (g_nm 2 nd)) (fun s H C cl fp => (pts_one (t_eq hu (g_ix hu (g_var 2) de_int) (g_var 1)))) (fun s H C cl fp => (g_var 2))) g_nil)))))
abbrev N_find_way : List Str := ["flow", "state", "name", "way"]
theorem d_find_way (G : Good P w K mg CL) (hk : 23 ≤ k) (ok : AllOk P w K mg base CL tab k c) {f : Addr} {cdv : Value} {A : Around} {outer : List Env} {s : Shared} {H : Hp} {E : XK} (hr : Room k (A.deeper (envOfC "find_way" (defScope (top 13)) s.heap.objs.size f cdv))) :
    DSs (cxOf (L2.CX P w) P w K mg base N_find_way "find_way" (defScope (top 13)) f cdv A outer s H E) CL (fun cls d _ H => E cls d H) c (defBody (top 13)) b_find_way := by
  have hu := hu_of23 hr hk
  have nd : (N_find_way).Nodup := by decide
  have tk : Takes (cxOf (L2.CX P w) P w K mg base N_find_way "find_way" (defScope (top 13)) f cdv A outer s H E) (fun cls d _ H => E cls d H) := takes_of rfl rfl rfl rfl
  have po : PassesOwn (model P w) (cxOf (L2.CX P w) P w K mg base N_find_way "find_way" (defScope (top 13)) f cdv A outer s H E).A (cxOf (L2.CX P w) P w K mg base N_find_way "find_way" (defScope (top 13)) f cdv A outer s H E).env (cxOf (L2.CX P w) P w K mg base N_find_way "find_way" (defScope (top 13)) f cdv A outer s H E).xe := passes_of rfl
  exact (ds_cons (ds_for po rfl (di_val (g_call (ok_ways_from ok) hr tk (g_cons (g_var 0) (g_cons (g_var 1) g_nil)))) (g_nm 3 nd)
  (ds_one (ds_if (t_eq hu (g_ix hu (g_var 3) de_int) (g_var 2))
  (ds_one (ds_ret (g_var 3)))
  ds_nil)) (by intro _; rfl))
  (ds_one (ds_ret de_non)))
abbrev N_reachable : List Str := ["flow", "state", "found", "waiting", "here", "way", "one"]
theorem d_reachable (G : Good P w K mg CL) (hk : 23 ≤ k) (ok : AllOk P w K mg base CL tab k c) {f : Addr} {cdv : Value} {A : Around} {outer : List Env} {s : Shared} {H : Hp} {E : XK} (hr : Room k (A.deeper (envOfC "reachable" (defScope (top 15)) s.heap.objs.size f cdv))) :
    DSs (cxOf (L2.CX P w) P w K mg base N_reachable "reachable" (defScope (top 15)) f cdv A outer s H E) CL (fun cls d _ H => E cls d H) c (defBody (top 15)) b_reachable := by
  have hu := hu_of23 hr hk
  have nd : (N_reachable).Nodup := by decide
  have tk : Takes (cxOf (L2.CX P w) P w K mg base N_reachable "reachable" (defScope (top 15)) f cdv A outer s H E) (fun cls d _ H => E cls d H) := takes_of rfl rfl rfl rfl
  have po : PassesOwn (model P w) (cxOf (L2.CX P w) P w K mg base N_reachable "reachable" (defScope (top 15)) f cdv A outer s H E).A (cxOf (L2.CX P w) P w K mg base N_reachable "reachable" (defScope (top 15)) f cdv A outer s H E).env (cxOf (L2.CX P w) P w K mg base N_reachable "reachable" (defScope (top 15)) f cdv A outer s H E).xe := passes_of rfl
  exact (ds_cons (s_expr (g_call (ok_require_state ok) hr tk (g_cons (g_var 0) (g_cons (g_var 1) g_nil))))
  (ds_cons (s_set 2 nd (g_dict1 (g_var 1) de_bl))
  (ds_cons (s_set 3 nd (de_lst (g_cons (g_var 1) g_nil)))
  (ds_cons (ds_while po (t_val (g_var 3))
  (ds_cons (s_set 4 nd (g_meth0 (mth_pop) (g_var 3)))
  (ds_one (ds_for po rfl (di_val (g_call (ok_ways_from ok) hr tk (g_cons (g_var 0) (g_cons (g_var 4) g_nil)))) (g_nm 5 nd)
  (ds_one (ds_if (t_nin hu (g_ix hu (g_var 5) de_int) (g_var 2))
  (ds_cons (s_put hu (g_var 2) (g_ix hu (g_var 5) de_int) de_bl)
  (ds_one (s_expr (g_meth (mth_append) (g_var 3) (g_cons (g_ix hu (g_var 5) de_int) g_nil)))))
  ds_nil)) (by intro _; rfl)))))
  (ds_one (ds_ret (g_tuple G.n_tuple (g_cons (g_comp [(("one" : Str), 6)] rfl nd (di_val (g_ix hu (g_var 0) de_int)) (fun s H C cl fp => (g_nm 6 nd)) (fun s H C cl fp => (pts_one (t_in hu (g_var 6) (g_var 2)))) (fun s H C cl fp => (g_var 6))) g_nil))))))))
abbrev N_reaches_closed : List Str := ["flow", "state", "avoided", "found", "waiting", "here", "way"]
theorem d_reaches_closed (G : Good P w K mg CL) (hk : 23 ≤ k) (ok : AllOk P w K mg base CL tab k c) {f : Addr} {cdv : Value} {A : Around} {outer : List Env} {s : Shared} {H : Hp} {E : XK} (hr : Room k (A.deeper (envOfC "reaches_closed" (defScope (top 16)) s.heap.objs.size f cdv))) :
    DSs (cxOf (L2.CX P w) P w K mg base N_reaches_closed "reaches_closed" (defScope (top 16)) f cdv A outer s H E) CL (fun cls d _ H => E cls d H) c (defBody (top 16)) b_reaches_closed := by
  have hu := hu_of23 hr hk
  have nd : (N_reaches_closed).Nodup := by decide
  have tk : Takes (cxOf (L2.CX P w) P w K mg base N_reaches_closed "reaches_closed" (defScope (top 16)) f cdv A outer s H E) (fun cls d _ H => E cls d H) := takes_of rfl rfl rfl rfl
  have po : PassesOwn (model P w) (cxOf (L2.CX P w) P w K mg base N_reaches_closed "reaches_closed" (defScope (top 16)) f cdv A outer s H E).A (cxOf (L2.CX P w) P w K mg base N_reaches_closed "reaches_closed" (defScope (top 16)) f cdv A outer s H E).env (cxOf (L2.CX P w) P w K mg base N_reaches_closed "reaches_closed" (defScope (top 16)) f cdv A outer s H E).xe := passes_of rfl
  exact (ds_cons (ds_if (t_eq hu (g_var 1) (g_var 2))
  (ds_one (ds_ret de_bl))
  ds_nil)
  (ds_cons (s_set 3 nd (g_dict1 (g_var 1) de_bl))
  (ds_cons (s_set 4 nd (de_lst (g_cons (g_var 1) g_nil)))
  (ds_cons (ds_while po (t_val (g_var 4))
  (ds_cons (s_set 5 nd (g_meth0 (mth_pop) (g_var 4)))
  (ds_cons (ds_if (t_in hu (g_var 5) (g_ix hu (g_var 0) de_int))
  (ds_one (ds_ret de_bl))
  ds_nil)
  (ds_one (ds_for po rfl (di_val (g_call (ok_ways_from ok) hr tk (g_cons (g_var 0) (g_cons (g_var 5) g_nil)))) (g_nm 6 nd)
  (ds_one (ds_if (t_w (dw_and (t_nin hu (g_ix hu (g_var 6) de_int) (g_var 3)) (dw_one (t_ne hu (g_ix hu (g_var 6) de_int) (g_var 2)))))
  (ds_cons (s_put hu (g_var 3) (g_ix hu (g_var 6) de_int) de_bl)
  (ds_one (s_expr (g_meth (mth_append) (g_var 4) (g_cons (g_ix hu (g_var 6) de_int) g_nil)))))
  ds_nil)) (by intro _; rfl))))))
  (ds_one (ds_ret de_bl))))))
abbrev N_dead_states : List Str := ["flow", "state"]
theorem d_dead_states (G : Good P w K mg CL) (hk : 23 ≤ k) (ok : AllOk P w K mg base CL tab k c) {f : Addr} {cdv : Value} {A : Around} {outer : List Env} {s : Shared} {H : Hp} {E : XK} (hr : Room k (A.deeper (envOfC "dead_states" (defScope (top 17)) s.heap.objs.size f cdv))) :
    DSs (cxOf (L2.CX P w) P w K mg base N_dead_states "dead_states" (defScope (top 17)) f cdv A outer s H E) CL (fun cls d _ H => E cls d H) c (defBody (top 17)) b_dead_states := by
  have hu := hu_of23 hr hk
  have nd : (N_dead_states).Nodup := by decide
  have tk : Takes (cxOf (L2.CX P w) P w K mg base N_dead_states "dead_states" (defScope (top 17)) f cdv A outer s H E) (fun cls d _ H => E cls d H) := takes_of rfl rfl rfl rfl
  have po : PassesOwn (model P w) (cxOf (L2.CX P w) P w K mg base N_dead_states "dead_states" (defScope (top 17)) f cdv A outer s H E).A (cxOf (L2.CX P w) P w K mg base N_dead_states "dead_states" (defScope (top 17)) f cdv A outer s H E).env (cxOf (L2.CX P w) P w K mg base N_dead_states "dead_states" (defScope (top 17)) f cdv A outer s H E).xe := passes_of rfl
  exact (ds_one (ds_ret (g_tuple G.n_tuple (g_cons (g_comp [(("state" : Str), 1)] rfl nd (di_val (g_ix hu (g_var 0) de_int)) (fun s H C cl fp => (g_nm 1 nd)) (fun s H C cl fp => (pts_one (dt_not (t_val (g_call (ok_reaches_closed ok) hr takes00 (g_cons (g_var 0) (g_cons (g_var 1) (g_cons de_non g_nil)))))))) (fun s H C cl fp => (g_var 1))) g_nil))))
abbrev N_distances : List Str := ["flow", "target", "found", "count", "way"]
theorem d_distances (G : Good P w K mg CL) (hk : 23 ≤ k) (ok : AllOk P w K mg base CL tab k c) {f : Addr} {cdv : Value} {A : Around} {outer : List Env} {s : Shared} {H : Hp} {E : XK} (hr : Room k (A.deeper (envOfC "distances" (defScope (top 18)) s.heap.objs.size f cdv))) :
    DSs (cxOf (L2.CX P w) P w K mg base N_distances "distances" (defScope (top 18)) f cdv A outer s H E) CL (fun cls d _ H => E cls d H) c (defBody (top 18)) b_distances := by
  have hu := hu_of23 hr hk
  have nd : (N_distances).Nodup := by decide
  have tk : Takes (cxOf (L2.CX P w) P w K mg base N_distances "distances" (defScope (top 18)) f cdv A outer s H E) (fun cls d _ H => E cls d H) := takes_of rfl rfl rfl rfl
  have po : PassesOwn (model P w) (cxOf (L2.CX P w) P w K mg base N_distances "distances" (defScope (top 18)) f cdv A outer s H E).A (cxOf (L2.CX P w) P w K mg base N_distances "distances" (defScope (top 18)) f cdv A outer s H E).env (cxOf (L2.CX P w) P w K mg base N_distances "distances" (defScope (top 18)) f cdv A outer s H E).xe := passes_of rfl
  exact (ds_cons (s_set 2 nd (g_dict1 (g_var 1) de_int))
  (ds_cons (ds_for po rfl (g_rng2 G.n_range de_int (g_len G.n_len (g_cons (g_ix hu (g_var 0) de_int) g_nil))) (g_nm 3 nd)
  (ds_one (ds_for po rfl (di_val (g_ix hu (g_var 0) de_int)) (g_nm 4 nd)
  (ds_one (ds_if (t_w (dw_and (t_nin hu (g_ix hu (g_var 4) de_int) (g_var 2)) (dw_one (t_eq hu (g_meth (mth_get hu) (g_var 2) (g_cons (g_ix hu (g_var 4) de_int) (g_cons (g_glob G.c_NEVER) g_nil))) (g_sub (g_var 3) de_int)))))
  (ds_one (s_put hu (g_var 2) (g_ix hu (g_var 4) de_int) (g_var 3)))
  ds_nil)) (by intro _; rfl))) (by intro _; rfl))
  (ds_one (ds_ret (g_var 2)))))
abbrev N_walk_along : List Str := ["flow", "state", "names", "here", "name", "way"]
theorem d_walk_along (G : Good P w K mg CL) (hk : 23 ≤ k) (ok : AllOk P w K mg base CL tab k c) {f : Addr} {cdv : Value} {A : Around} {outer : List Env} {s : Shared} {H : Hp} {E : XK} (hr : Room k (A.deeper (envOfC "walk_along" (defScope (top 19)) s.heap.objs.size f cdv))) :
    DSs (cxOf (L2.CX P w) P w K mg base N_walk_along "walk_along" (defScope (top 19)) f cdv A outer s H E) CL (fun cls d _ H => E cls d H) c (defBody (top 19)) b_walk_along := by
  have hu := hu_of23 hr hk
  have nd : (N_walk_along).Nodup := by decide
  have tk : Takes (cxOf (L2.CX P w) P w K mg base N_walk_along "walk_along" (defScope (top 19)) f cdv A outer s H E) (fun cls d _ H => E cls d H) := takes_of rfl rfl rfl rfl
  have po : PassesOwn (model P w) (cxOf (L2.CX P w) P w K mg base N_walk_along "walk_along" (defScope (top 19)) f cdv A outer s H E).A (cxOf (L2.CX P w) P w K mg base N_walk_along "walk_along" (defScope (top 19)) f cdv A outer s H E).env (cxOf (L2.CX P w) P w K mg base N_walk_along "walk_along" (defScope (top 19)) f cdv A outer s H E).xe := passes_of rfl
  exact (ds_cons (s_expr (g_call (ok_require_state ok) hr tk (g_cons (g_var 0) (g_cons (g_var 1) g_nil))))
  (ds_cons (s_set 3 nd (g_var 1))
  (ds_cons (ds_for po rfl (di_val (g_var 2)) (g_nm 4 nd)
  (ds_cons (s_set 5 nd (g_call (ok_find_way ok) hr tk (g_cons (g_var 0) (g_cons (g_var 3) (g_cons (g_var 4) g_nil)))))
  (ds_cons (ds_if (dt_isN (g_var 5))
  (ds_one (ds_ret de_non))
  ds_nil)
  (ds_one (s_set 3 nd (g_ix hu (g_var 5) de_int))))) (by intro _; rfl))
  (ds_one (ds_ret (g_var 3))))))
abbrev N_shortest_walk : List Str := ["flow", "source", "target", "left", "names", "here", "nearer", "steps", "name", "way"]
theorem d_shortest_walk (G : Good P w K mg CL) (hk : 23 ≤ k) (ok : AllOk P w K mg base CL tab k c) {f : Addr} {cdv : Value} {A : Around} {outer : List Env} {s : Shared} {H : Hp} {E : XK} (hr : Room k (A.deeper (envOfC "shortest_walk" (defScope (top 20)) s.heap.objs.size f cdv))) :
    DSs (cxOf (L2.CX P w) P w K mg base N_shortest_walk "shortest_walk" (defScope (top 20)) f cdv A outer s H E) CL (fun cls d _ H => E cls d H) c (defBody (top 20)) b_shortest_walk := by
  have hu := hu_of23 hr hk
  have nd : (N_shortest_walk).Nodup := by decide
  have tk : Takes (cxOf (L2.CX P w) P w K mg base N_shortest_walk "shortest_walk" (defScope (top 20)) f cdv A outer s H E) (fun cls d _ H => E cls d H) := takes_of rfl rfl rfl rfl
  have po : PassesOwn (model P w) (cxOf (L2.CX P w) P w K mg base N_shortest_walk "shortest_walk" (defScope (top 20)) f cdv A outer s H E).A (cxOf (L2.CX P w) P w K mg base N_shortest_walk "shortest_walk" (defScope (top 20)) f cdv A outer s H E).env (cxOf (L2.CX P w) P w K mg base N_shortest_walk "shortest_walk" (defScope (top 20)) f cdv A outer s H E).xe := passes_of rfl
  exact (ds_cons (s_expr (g_call (ok_require_state ok) hr tk (g_cons (g_var 0) (g_cons (g_var 1) g_nil))))
  (ds_cons (s_expr (g_call (ok_require_state ok) hr tk (g_cons (g_var 0) (g_cons (g_var 2) g_nil))))
  (ds_cons (s_set 3 nd (g_call (ok_distances ok) hr tk (g_cons (g_var 0) (g_cons (g_var 2) g_nil))))
  (ds_cons (ds_if (t_nin hu (g_var 1) (g_var 3))
  (ds_one (ds_ret de_non))
  ds_nil)
  (ds_cons (s_set 4 nd (de_lst g_nil))
  (ds_cons (s_set 5 nd (g_var 1))
  (ds_cons (ds_while po (t_ne hu (g_var 5) (g_var 2))
  (ds_cons (s_set 6 nd (g_sub (g_ix hu (g_var 3) (g_var 5)) de_int))
  (ds_cons (s_setc 7 [(("way" : Str), 9)] rfl nd (di_val (g_call (ok_ways_from ok) hr tk (g_cons (g_var 0) (g_cons (g_var 5) g_nil)))) (fun s H C cl fp => (g_nm 9 nd)) (fun s H C cl fp => (pts_one (t_eq hu (g_meth (mth_get hu) (g_var 3) (g_cons (g_ix hu (g_var 9) de_int) (g_cons (g_glob G.c_NEVER) g_nil))) (g_var 6)))) (fun s H C cl fp => (de_tup (g_cons (g_ix hu (g_var 9) de_int) (g_cons (g_ix hu (g_var 9) de_int) g_nil)))))
  (ds_cons (s_asg (g_minL G.n_min rfl hu (g_cons (g_var 7) g_nil)) (dg_tp rfl nd (g_nms 8 (g_nms 5 g_nms0))))
  (ds_one (s_expr (g_meth (mth_append) (g_var 4) (g_cons (g_var 8) g_nil))))))))
  (ds_one (ds_ret (g_tuple G.n_tuple (g_cons (g_var 4) g_nil)))))))))))
abbrev N_count_walks : List Str := ["flow", "source", "target", "length", "counts", "_", "following", "way"]
theorem d_count_walks (G : Good P w K mg CL) (hk : 23 ≤ k) (ok : AllOk P w K mg base CL tab k c) {f : Addr} {cdv : Value} {A : Around} {outer : List Env} {s : Shared} {H : Hp} {E : XK} (hr : Room k (A.deeper (envOfC "count_walks" (defScope (top 21)) s.heap.objs.size f cdv))) :
    DSs (cxOf (L2.CX P w) P w K mg base N_count_walks "count_walks" (defScope (top 21)) f cdv A outer s H E) CL (fun cls d _ H => E cls d H) c (defBody (top 21)) b_count_walks := by
  have hu := hu_of23 hr hk
  have nd : (N_count_walks).Nodup := by decide
  have tk : Takes (cxOf (L2.CX P w) P w K mg base N_count_walks "count_walks" (defScope (top 21)) f cdv A outer s H E) (fun cls d _ H => E cls d H) := takes_of rfl rfl rfl rfl
  have po : PassesOwn (model P w) (cxOf (L2.CX P w) P w K mg base N_count_walks "count_walks" (defScope (top 21)) f cdv A outer s H E).A (cxOf (L2.CX P w) P w K mg base N_count_walks "count_walks" (defScope (top 21)) f cdv A outer s H E).env (cxOf (L2.CX P w) P w K mg base N_count_walks "count_walks" (defScope (top 21)) f cdv A outer s H E).xe := passes_of rfl
  exact (ds_cons (s_expr (g_call (ok_require_state ok) hr tk (g_cons (g_var 0) (g_cons (g_var 1) g_nil))))
  (ds_cons (s_expr (g_call (ok_require_state ok) hr tk (g_cons (g_var 0) (g_cons (g_var 2) g_nil))))
  (ds_cons (ds_if (dt_not (t_val (g_call (ok_is_between ok) hr tk (g_cons (g_var 3) (g_cons de_int (g_cons (g_glob G.c_MOST_LENGTH) g_nil))))))
  (ds_one (ds_raise rfl tk G.x_BadValue G.hc_BadValue rfl (by decide) (by decide) hr (g_cons g_str g_nil) rfl G.g_BadValue G.n_super (by decide) rfl rfl))
  ds_nil)
  (ds_cons (s_set 4 nd (g_dict1 (g_var 1) de_int))
  (ds_cons (ds_for po rfl (g_rng1 G.n_range (g_var 3)) (g_nm 5 nd)
  (ds_cons (s_set 6 nd g_dict0)
  (ds_cons (ds_for po rfl (di_val (g_ix hu (g_var 0) de_int)) (g_nm 7 nd)
  (ds_one (ds_if (t_in hu (g_ix hu (g_var 7) de_int) (g_var 4))
  (ds_one (s_put hu (g_var 6) (g_ix hu (g_var 7) de_int) (g_add (g_meth (mth_get hu) (g_var 6) (g_cons (g_ix hu (g_var 7) de_int) (g_cons de_int g_nil))) (g_ix hu (g_var 4) (g_ix hu (g_var 7) de_int)))))
  ds_nil)) (by intro _; rfl))
  (ds_one (s_set 4 nd (g_var 6))))) (by intro _; rfl))
  (ds_one (ds_ret (g_meth (mth_get hu) (g_var 4) (g_cons (g_var 2) (g_cons de_int g_nil))))))))))
abbrev N_must_pass : List Str := ["flow", "state", "one"]
theorem d_must_pass (G : Good P w K mg CL) (hk : 23 ≤ k) (ok : AllOk P w K mg base CL tab k c) {f : Addr} {cdv : Value} {A : Around} {outer : List Env} {s : Shared} {H : Hp} {E : XK} (hr : Room k (A.deeper (envOfC "must_pass" (defScope (top 22)) s.heap.objs.size f cdv))) :
    DSs (cxOf (L2.CX P w) P w K mg base N_must_pass "must_pass" (defScope (top 22)) f cdv A outer s H E) CL (fun cls d _ H => E cls d H) c (defBody (top 22)) b_must_pass := by
  have hu := hu_of23 hr hk
  have nd : (N_must_pass).Nodup := by decide
  have tk : Takes (cxOf (L2.CX P w) P w K mg base N_must_pass "must_pass" (defScope (top 22)) f cdv A outer s H E) (fun cls d _ H => E cls d H) := takes_of rfl rfl rfl rfl
  have po : PassesOwn (model P w) (cxOf (L2.CX P w) P w K mg base N_must_pass "must_pass" (defScope (top 22)) f cdv A outer s H E).A (cxOf (L2.CX P w) P w K mg base N_must_pass "must_pass" (defScope (top 22)) f cdv A outer s H E).env (cxOf (L2.CX P w) P w K mg base N_must_pass "must_pass" (defScope (top 22)) f cdv A outer s H E).xe := passes_of rfl
  exact (ds_cons (s_expr (g_call (ok_require_state ok) hr tk (g_cons (g_var 0) (g_cons (g_var 1) g_nil))))
  (ds_cons (ds_if (dt_not (t_val (g_call (ok_reaches_closed ok) hr tk (g_cons (g_var 0) (g_cons (g_var 1) (g_cons de_non g_nil))))))
  (ds_one (ds_raise rfl tk G.x_Refused G.hc_Refused rfl (by decide) (by decide) hr (g_cons g_str g_nil) rfl G.g_Refused G.n_super (by decide) rfl rfl))
  ds_nil)
  (ds_one (ds_ret (g_tuple G.n_tuple (g_cons (g_comp [(("one" : Str), 2)] rfl nd (di_val (g_ix hu (g_var 0) de_int)) (fun s H C cl fp => (g_nm 2 nd)) (fun s H C cl fp => (pts_one (dt_not (t_val (g_call (ok_reaches_closed ok) hr takes00 (g_cons (g_var 0) (g_cons (g_var 1) (g_cons (g_var 2) g_nil)))))))) (fun s H C cl fp => (g_var 2))) g_nil))))))
abbrev N_least_days : List Str := ["flow", "state", "least", "_", "way", "one"]
theorem d_least_days (G : Good P w K mg CL) (hk : 23 ≤ k) (ok : AllOk P w K mg base CL tab k c) {f : Addr} {cdv : Value} {A : Around} {outer : List Env} {s : Shared} {H : Hp} {E : XK} (hr : Room k (A.deeper (envOfC "least_days" (defScope (top 23)) s.heap.objs.size f cdv))) :
    DSs (cxOf (L2.CX P w) P w K mg base N_least_days "least_days" (defScope (top 23)) f cdv A outer s H E) CL (fun cls d _ H => E cls d H) c (defBody (top 23)) b_least_days := by
  have hu := hu_of23 hr hk
  have nd : (N_least_days).Nodup := by decide
  have tk : Takes (cxOf (L2.CX P w) P w K mg base N_least_days "least_days" (defScope (top 23)) f cdv A outer s H E) (fun cls d _ H => E cls d H) := takes_of rfl rfl rfl rfl
  have po : PassesOwn (model P w) (cxOf (L2.CX P w) P w K mg base N_least_days "least_days" (defScope (top 23)) f cdv A outer s H E).A (cxOf (L2.CX P w) P w K mg base N_least_days "least_days" (defScope (top 23)) f cdv A outer s H E).env (cxOf (L2.CX P w) P w K mg base N_least_days "least_days" (defScope (top 23)) f cdv A outer s H E).xe := passes_of rfl
  exact (ds_cons (s_expr (g_call (ok_require_state ok) hr tk (g_cons (g_var 0) (g_cons (g_var 1) g_nil))))
  (ds_cons (s_setdc 2 [(("one" : Str), 5)] rfl nd (di_val (g_ix hu (g_var 0) de_int)) (fun s H C cl fp => (g_nm 5 nd)) (fun s H C cl fp => pts_none) (fun s H C cl fp => (g_var 5)) (fun s H C cl fp => de_int))
  (ds_cons (ds_for po rfl (g_rng1 G.n_range (g_len G.n_len (g_cons (g_ix hu (g_var 0) de_int) g_nil))) (g_nm 3 nd)
  (ds_one (ds_for po rfl (di_val (g_ix hu (g_var 0) de_int)) (g_nm 4 nd)
  (ds_one (ds_if (t_w (dw_and (t_in hu (g_ix hu (g_var 4) de_int) (g_var 2)) (dw_one (t_lt (g_add (g_ix hu (g_var 2) (g_ix hu (g_var 4) de_int)) (g_ix hu (g_var 4) de_int)) (g_meth (mth_get hu) (g_var 2) (g_cons (g_ix hu (g_var 4) de_int) (g_cons (g_glob G.c_NEVER) g_nil)))))))
  (ds_one (s_put hu (g_var 2) (g_ix hu (g_var 4) de_int) (g_add (g_ix hu (g_var 2) (g_ix hu (g_var 4) de_int)) (g_ix hu (g_var 4) de_int))))
  ds_nil)) (by intro _; rfl))) (by intro _; rfl))
  (ds_one (ds_ret (g_meth (mth_get hu) (g_var 2) (g_cons (g_var 1) g_nil)))))))
abbrev N__law_cell : List Str := ["script", "k"]
theorem d__law_cell (G : Good P w K mg CL) (hk : 23 ≤ k) (ok : AllOk P w K mg base CL tab k c) {f : Addr} {cdv : Value} {A : Around} {outer : List Env} {s : Shared} {H : Hp} {E : XK} (hr : Room k (A.deeper (envOfC "_law_cell" (defScope (top 25)) s.heap.objs.size f cdv))) :
    DSs (cxOf (L2.CX P w) P w K mg base N__law_cell "_law_cell" (defScope (top 25)) f cdv A outer s H E) CL (fun cls d _ H => E cls d H) c (defBody (top 25)) b__law_cell := by
  have hu := hu_of23 hr hk
  have nd : (N__law_cell).Nodup := by decide
  have tk : Takes (cxOf (L2.CX P w) P w K mg base N__law_cell "_law_cell" (defScope (top 25)) f cdv A outer s H E) (fun cls d _ H => E cls d H) := takes_of rfl rfl rfl rfl
  have po : PassesOwn (model P w) (cxOf (L2.CX P w) P w K mg base N__law_cell "_law_cell" (defScope (top 25)) f cdv A outer s H E).A (cxOf (L2.CX P w) P w K mg base N__law_cell "_law_cell" (defScope (top 25)) f cdv A outer s H E).env (cxOf (L2.CX P w) P w K mg base N__law_cell "_law_cell" (defScope (top 25)) f cdv A outer s H E).xe := passes_of rfl
  exact (ds_cons (ds_if (t_lt (g_var 1) (g_len G.n_len (g_cons (g_var 0) g_nil)))
  (ds_one (ds_ret (g_int G.n_int (g_cons (g_ix hu (g_var 0) (g_var 1)) g_nil))))
  ds_nil)
  (ds_cons (ds_if (t_eq hu (g_len G.n_len (g_cons (g_var 0) g_nil)) de_int)
  (ds_one (ds_ret (g_add (g_mul de_int (g_var 1)) de_int)))
  ds_nil)
  (ds_one (ds_ret (g_mod (g_int G.n_int (g_cons (g_add (g_mul (g_int G.n_int (g_cons (g_ix hu (g_var 0) (g_mod (g_int G.n_int (g_cons (g_var 1) g_nil)) (g_len G.n_len (g_cons (g_var 0) g_nil)))) g_nil)) de_int) (g_mul de_int (g_var 1))) g_nil)) de_int)))))
abbrev N__law_digits : List Str := ["cell", "sizes", "found", "number", "size"]
theorem d__law_digits (G : Good P w K mg CL) (hk : 23 ≤ k) (ok : AllOk P w K mg base CL tab k c) {f : Addr} {cdv : Value} {A : Around} {outer : List Env} {s : Shared} {H : Hp} {E : XK} (hr : Room k (A.deeper (envOfC "_law_digits" (defScope (top 26)) s.heap.objs.size f cdv))) :
    DSs (cxOf (L2.CX P w) P w K mg base N__law_digits "_law_digits" (defScope (top 26)) f cdv A outer s H E) CL (fun cls d _ H => E cls d H) c (defBody (top 26)) b__law_digits := by
  have hu := hu_of23 hr hk
  have nd : (N__law_digits).Nodup := by decide
  have tk : Takes (cxOf (L2.CX P w) P w K mg base N__law_digits "_law_digits" (defScope (top 26)) f cdv A outer s H E) (fun cls d _ H => E cls d H) := takes_of rfl rfl rfl rfl
  have po : PassesOwn (model P w) (cxOf (L2.CX P w) P w K mg base N__law_digits "_law_digits" (defScope (top 26)) f cdv A outer s H E).A (cxOf (L2.CX P w) P w K mg base N__law_digits "_law_digits" (defScope (top 26)) f cdv A outer s H E).env (cxOf (L2.CX P w) P w K mg base N__law_digits "_law_digits" (defScope (top 26)) f cdv A outer s H E).xe := passes_of rfl
  exact (ds_cons (s_set 2 nd (de_lst g_nil))
  (ds_cons (s_set 3 nd (g_var 0))
  (ds_cons (ds_if (t_lt (g_var 0) (g_pow de_int de_int))
  (ds_one (s_set 3 nd (g_mod (g_int G.n_int (g_cons (g_var 0) g_nil)) de_int)))
  ds_nil)
  (ds_cons (ds_for po rfl (di_val (g_var 1)) (g_nm 4 nd)
  (ds_one (ds_if (t_lt (g_var 0) (g_pow de_int de_int))
  (ds_cons (s_set 3 nd (g_mod (g_int G.n_int (g_cons (g_add (g_add (g_mul (g_var 3) de_int) de_int) (g_mul de_int (g_len G.n_len (g_cons (g_var 2) g_nil)))) g_nil)) de_int))
  (ds_one (s_expr (g_meth (mth_append) (g_var 2) (g_cons (g_mod (g_int G.n_int (g_cons (g_div (g_var 3) de_int) g_nil)) (g_var 4)) g_nil)))))
  (ds_cons (s_expr (g_meth (mth_append) (g_var 2) (g_cons (g_mod (g_int G.n_int (g_cons (g_var 3) g_nil)) (g_var 4)) g_nil)))
  (ds_one (s_set 3 nd (g_div (g_var 3) (g_var 4))))))) (by intro _; rfl))
  (ds_one (ds_ret (g_var 2)))))))
abbrev N__law_names : List Str := ["cell", "count", "letters", "row", "stem", "names", "k", "place", "letter", "size", "name", "j", "n"]
theorem d__law_names (G : Good P w K mg CL) (hk : 23 ≤ k) (ok : AllOk P w K mg base CL tab k c) {f : Addr} {cdv : Value} {A : Around} {outer : List Env} {s : Shared} {H : Hp} {E : XK} (hr : Room k (A.deeper (envOfC "_law_names" (defScope (top 27)) s.heap.objs.size f cdv))) :
    DSs (cxOf (L2.CX P w) P w K mg base N__law_names "_law_names" (defScope (top 27)) f cdv A outer s H E) CL (fun cls d _ H => E cls d H) c (defBody (top 27)) b__law_names := by
  have hu := hu_of23 hr hk
  have nd : (N__law_names).Nodup := by decide
  have tk : Takes (cxOf (L2.CX P w) P w K mg base N__law_names "_law_names" (defScope (top 27)) f cdv A outer s H E) (fun cls d _ H => E cls d H) := takes_of rfl rfl rfl rfl
  have po : PassesOwn (model P w) (cxOf (L2.CX P w) P w K mg base N__law_names "_law_names" (defScope (top 27)) f cdv A outer s H E).A (cxOf (L2.CX P w) P w K mg base N__law_names "_law_names" (defScope (top 27)) f cdv A outer s H E).env (cxOf (L2.CX P w) P w K mg base N__law_names "_law_names" (defScope (top 27)) f cdv A outer s H E).xe := passes_of rfl
  exact (ds_cons (s_set 2 nd g_str)
  (ds_cons (s_set 3 nd (g_call (ok__law_digits ok) hr tk (g_cons (g_var 0) (g_cons (g_add (g_add (de_lst (g_cons de_int (g_cons de_int g_nil))) (g_mul (de_lst (g_cons de_int g_nil)) de_int)) (g_mul (de_lst (g_cons de_int (g_cons de_int (g_cons de_int g_nil)))) (g_var 1))) g_nil))))
  (ds_cons (s_set 4 nd (g_meth (mth_join) g_str (g_cons (g_comp [(("n" : Str), 12)] rfl nd (di_val (de_cut (g_var 3) (dp_yes de_int) (dp_yes de_int))) (fun s H C cl fp => (g_nm 12 nd)) (fun s H C cl fp => pts_none) (fun s H C cl fp => (g_ix hu (g_var 2) (g_var 12)))) g_nil)))
  (ds_cons (s_set 5 nd (de_lst g_nil))
  (ds_cons (ds_for po rfl (g_rng1 G.n_range (g_var 1)) (g_nm 6 nd)
  (ds_cons (s_set 7 nd (g_ix hu (g_var 3) (g_add de_int (g_mul de_int (g_var 6)))))
  (ds_cons (s_set 8 nd (g_ix hu (g_var 2) (g_ix hu (g_var 3) (g_add de_int (g_mul de_int (g_var 6))))))
  (ds_cons (s_set 9 nd (g_add de_int (g_ix hu (g_var 3) (g_add de_int (g_mul de_int (g_var 6))))))
  (ds_cons (s_set 10 nd (de_cut (g_add (g_add (g_var 8) (de_cut (g_var 4) (dp_yes (g_var 7)) dp_no)) (de_cut (g_var 4) dp_no (dp_yes (g_var 7)))) dp_no (dp_yes (g_var 9))))
  (ds_cons (ds_if (t_eq hu (g_ix hu (g_var 3) de_int) de_int)
  (ds_one (s_set 10 nd (de_cut (g_var 4) dp_no (dp_yes (g_var 9)))))
  ds_nil)
  (ds_cons (ds_if (t_eq hu (g_ix hu (g_var 3) de_int) de_int)
  (ds_cons (s_set 9 nd (g_add de_int (g_ix hu (g_var 3) de_int)))
  (ds_cons (s_set 7 nd (g_mod (g_int G.n_int (g_cons (g_var 7) g_nil)) (g_var 9)))
  (ds_one (s_set 10 nd (g_add (g_add (de_cut (g_var 4) dp_no (dp_yes (g_var 7))) (g_var 8)) (de_cut (g_var 4) (dp_yes (g_add (g_var 7) de_int)) (dp_yes (g_var 9))))))))
  ds_nil)
  (ds_cons (ds_for po rfl (g_rng1 G.n_range de_int) (g_nm 11 nd)
  (ds_one (ds_if (t_in hu (g_var 10) (g_var 5))
  (ds_one (s_set 10 nd (g_add (g_ix hu (g_var 2) (g_var 11)) (g_ix hu (g_var 2) (g_var 6)))))
  ds_nil)) (by intro _; rfl))
  (ds_one (s_expr (g_meth (mth_append) (g_var 5) (g_cons (g_var 10) g_nil))))))))))) (by intro _; rfl))
  (ds_one (ds_ret (g_var 5))))))))
abbrev N__law_flow : List Str := ["cell", "states", "names", "roles", "relations", "row", "closed", "free", "ways", "k", "part", "name", "needs", "source", "target", "state", "j", "way"]
theorem d__law_flow (G : Good P w K mg CL) (hk : 23 ≤ k) (ok : AllOk P w K mg base CL tab k c) {f : Addr} {cdv : Value} {A : Around} {outer : List Env} {s : Shared} {H : Hp} {E : XK} (hr : Room k (A.deeper (envOfC "_law_flow" (defScope (top 28)) s.heap.objs.size f cdv))) :
    DSs (cxOf (L2.CX P w) P w K mg base N__law_flow "_law_flow" (defScope (top 28)) f cdv A outer s H E) CL (fun cls d _ H => E cls d H) c (defBody (top 28)) b__law_flow := by
  have hu := hu_of23 hr hk
  have nd : (N__law_flow).Nodup := by decide
  have tk : Takes (cxOf (L2.CX P w) P w K mg base N__law_flow "_law_flow" (defScope (top 28)) f cdv A outer s H E) (fun cls d _ H => E cls d H) := takes_of rfl rfl rfl rfl
  have po : PassesOwn (model P w) (cxOf (L2.CX P w) P w K mg base N__law_flow "_law_flow" (defScope (top 28)) f cdv A outer s H E).A (cxOf (L2.CX P w) P w K mg base N__law_flow "_law_flow" (defScope (top 28)) f cdv A outer s H E).env (cxOf (L2.CX P w) P w K mg base N__law_flow "_law_flow" (defScope (top 28)) f cdv A outer s H E).xe := passes_of rfl
  exact (ds_cons (s_set 4 nd (de_lst (g_cons g_str (g_cons g_str (g_cons g_str (g_cons g_str g_nil))))))
  (ds_cons (s_set 5 nd (g_call (ok__law_digits ok) hr tk (g_cons (g_var 0) (g_cons (g_add (g_add (de_lst (g_cons de_int (g_cons de_int (g_cons de_int g_nil)))) (g_mul (de_lst (g_cons de_int g_nil)) de_int)) (g_mul (de_lst (g_cons de_int (g_cons de_int (g_cons de_int (g_cons de_int (g_cons de_int (g_cons de_int (g_cons de_int (g_cons de_int (g_cons de_int (g_cons de_int (g_cons de_int (g_cons de_int (g_cons de_int g_nil)))))))))))))) de_int)) g_nil))))
  (ds_cons (s_set 1 nd (de_cut (g_var 1) dp_no (dp_yes (g_add de_int (g_ix hu (g_var 5) de_int)))))
  (ds_cons (s_set 6 nd (g_comp [(("k" : Str), 9)] rfl nd (g_rng1 G.n_range (g_len G.n_len (g_cons (g_var 1) g_nil))) (fun s H C cl fp => (g_nm 9 nd)) (fun s H C cl fp => (pts_one (t_eq hu (g_ix hu (g_var 5) (g_add de_int (g_var 9))) de_int))) (fun s H C cl fp => (g_ix hu (g_var 1) (g_var 9)))))
  (ds_cons (s_setc 7 [(("state" : Str), 15)] rfl nd (di_val (g_var 1)) (fun s H C cl fp => (g_nm 15 nd)) (fun s H C cl fp => (pts_one (t_nin hu (g_var 15) (g_var 6)))) (fun s H C cl fp => (g_var 15)))
  (ds_cons (s_set 8 nd (de_lst g_nil))
  (ds_cons (ds_for po rfl (g_rng1 G.n_range (g_ix hu (g_var 5) de_int)) (g_nm 9 nd)
  (ds_cons (s_set 10 nd (de_cut (g_var 5) (dp_yes (g_add de_int (g_mul de_int (g_var 9)))) (dp_yes (g_add de_int (g_mul de_int (g_var 9))))))
  (ds_cons (s_set 11 nd (g_ix hu (g_var 2) (g_mod (g_int G.n_int (g_cons (g_ix hu (g_var 10) de_int) g_nil)) (g_ix hu (de_lst (g_cons de_int (g_cons de_int (g_cons de_int (g_cons de_int g_nil))))) (g_ix hu (g_var 5) de_int)))))
  (ds_cons (s_setc 12 [(("j" : Str), 16)] rfl nd (g_rng1 G.n_range de_int) (fun s H C cl fp => (g_nm 16 nd)) (fun s H C cl fp => (pts_one (t_eq hu (g_ix hu (g_var 10) (g_add de_int (g_var 16))) de_int))) (fun s H C cl fp => (de_tup (g_cons (g_ix hu (g_var 4) (g_var 16)) (g_cons (g_ix hu (g_var 10) (g_add de_int (g_var 16))) g_nil)))))
  (ds_one (ds_if (t_gt (g_len G.n_len (g_cons (g_var 7) g_nil)) de_int)
  (ds_cons (s_set 13 nd (g_ix hu (g_var 7) (g_mod (g_int G.n_int (g_cons (g_ix hu (g_var 10) de_int) g_nil)) (g_len G.n_len (g_cons (g_var 7) g_nil)))))
  (ds_cons (s_set 14 nd (g_ix hu (g_var 1) (g_mod (g_int G.n_int (g_cons (g_ix hu (g_var 10) de_int) g_nil)) (g_len G.n_len (g_cons (g_var 1) g_nil)))))
  (ds_one (ds_if (t_nin hu (de_tup (g_cons (g_var 11) (g_cons (g_var 13) g_nil))) (g_comp [(("way" : Str), 17)] rfl nd (di_val (g_var 8)) (fun s H C cl fp => (g_nm 17 nd)) (fun s H C cl fp => pts_none) (fun s H C cl fp => (de_cut (g_var 17) dp_no (dp_yes de_int)))))
  (ds_one (s_expr (g_meth (mth_append) (g_var 8) (g_cons (de_tup (g_cons (g_var 11) (g_cons (g_var 13) (g_cons (g_var 14) (g_cons (g_ix hu (g_var 10) de_int) (g_cons (g_ix hu (g_var 3) (g_ix hu (g_var 10) de_int)) (g_cons (g_tuple G.n_tuple (g_cons (g_var 12) g_nil)) g_nil))))))) g_nil))))
  ds_nil))))
  ds_nil))))) (by intro _; rfl))
  (ds_one (ds_ret (de_tup (g_cons (g_tuple G.n_tuple (g_cons (g_var 1) g_nil)) (g_cons (g_tuple G.n_tuple (g_cons (g_var 6) g_nil)) (g_cons (g_tuple G.n_tuple (g_cons (g_var 8) g_nil)) g_nil)))))))))))))
abbrev N__law_same : List Str := ["told", "due", "k"]
theorem d__law_same (G : Good P w K mg CL) (hk : 23 ≤ k) (ok : AllOk P w K mg base CL tab k c) {f : Addr} {cdv : Value} {A : Around} {outer : List Env} {s : Shared} {H : Hp} {E : XK} (hr : Room k (A.deeper (envOfC "_law_same" (defScope (top 29)) s.heap.objs.size f cdv))) :
    DSs (cxOf (L2.CX P w) P w K mg base N__law_same "_law_same" (defScope (top 29)) f cdv A outer s H E) CL (fun cls d _ H => E cls d H) c (defBody (top 29)) b__law_same := by
  have hu := hu_of23 hr hk
  have nd : (N__law_same).Nodup := by decide
  have tk : Takes (cxOf (L2.CX P w) P w K mg base N__law_same "_law_same" (defScope (top 29)) f cdv A outer s H E) (fun cls d _ H => E cls d H) := takes_of rfl rfl rfl rfl
  have po : PassesOwn (model P w) (cxOf (L2.CX P w) P w K mg base N__law_same "_law_same" (defScope (top 29)) f cdv A outer s H E).A (cxOf (L2.CX P w) P w K mg base N__law_same "_law_same" (defScope (top 29)) f cdv A outer s H E).env (cxOf (L2.CX P w) P w K mg base N__law_same "_law_same" (defScope (top 29)) f cdv A outer s H E).xe := passes_of rfl
  exact (ds_cons (ds_if (dt_isN (g_var 1))
  (ds_one (ds_ret (de_isN (g_var 0))))
  ds_nil)
  (ds_cons (ds_if (t_val (g_isi .tuple G.n_isinstance G.n_tuple (g_var 1)))
  (ds_cons (ds_if (t_w (dw_or (dt_not (t_val (g_isi .tuple G.n_isinstance G.n_tuple (g_var 0)))) (dw_one' (t_ne hu (g_len G.n_len (g_cons (g_var 0) g_nil)) (g_len G.n_len (g_cons (g_var 1) g_nil))))))
  (ds_one (ds_ret de_bl))
  ds_nil)
  (ds_one (ds_ret (g_all G.n_all rfl (g_cons (g_comp [(("k" : Str), 2)] rfl nd (g_rng1 G.n_range (g_len G.n_len (g_cons (g_var 1) g_nil))) (fun s H C cl fp => (g_nm 2 nd)) (fun s H C cl fp => pts_none) (fun s H C cl fp => (g_call (ok__law_same ok) hr takes00 (g_cons (g_ix hu (g_var 0) (g_var 2)) (g_cons (g_ix hu (g_var 1) (g_var 2)) g_nil))))) g_nil)))))
  ds_nil)
  (ds_cons (ds_if (t_val (g_isi .str G.n_isinstance G.n_str (g_var 1)))
  (ds_one (ds_ret (de_and (g_isi .str G.n_isinstance G.n_str (g_var 0)) (de_one (g_eq hu (g_var 0) (g_var 1))))))
  ds_nil)
  (ds_cons (ds_if (t_val (g_isi .bool G.n_isinstance G.n_bool (g_var 1)))
  (ds_one (ds_ret (de_and (g_isi .bool G.n_isinstance G.n_bool (g_var 0)) (de_one (g_eq hu (g_var 0) (g_var 1))))))
  ds_nil)
  (ds_one (ds_ret (de_and (g_isi .int G.n_isinstance G.n_int (g_var 0)) (de_and (de_not (g_isi .bool G.n_isinstance G.n_bool (g_var 0))) (de_one (g_eq hu (g_var 0) (g_var 1)))))))))))
abbrev N__law_reach : List Str := ["flow", "state", "avoided", "found", "k", "way"]
theorem d__law_reach (G : Good P w K mg CL) (hk : 23 ≤ k) (ok : AllOk P w K mg base CL tab k c) {f : Addr} {cdv : Value} {A : Around} {outer : List Env} {s : Shared} {H : Hp} {E : XK} (hr : Room k (A.deeper (envOfC "_law_reach" (defScope (top 30)) s.heap.objs.size f cdv))) :
    DSs (cxOf (L2.CX P w) P w K mg base N__law_reach "_law_reach" (defScope (top 30)) f cdv A outer s H E) CL (fun cls d _ H => E cls d H) c (defBody (top 30)) b__law_reach := by
  have hu := hu_of23 hr hk
  have nd : (N__law_reach).Nodup := by decide
  have tk : Takes (cxOf (L2.CX P w) P w K mg base N__law_reach "_law_reach" (defScope (top 30)) f cdv A outer s H E) (fun cls d _ H => E cls d H) := takes_of rfl rfl rfl rfl
  have po : PassesOwn (model P w) (cxOf (L2.CX P w) P w K mg base N__law_reach "_law_reach" (defScope (top 30)) f cdv A outer s H E).A (cxOf (L2.CX P w) P w K mg base N__law_reach "_law_reach" (defScope (top 30)) f cdv A outer s H E).env (cxOf (L2.CX P w) P w K mg base N__law_reach "_law_reach" (defScope (top 30)) f cdv A outer s H E).xe := passes_of rfl
  exact (ds_cons (s_set 3 nd (de_lst (g_cons (g_var 1) g_nil)))
  (ds_cons (ds_for po rfl (g_rng1 G.n_range de_int) (g_nm 4 nd)
  (ds_one (ds_if (t_lt (g_var 4) (g_len G.n_len (g_cons (g_var 3) g_nil)))
  (ds_one (ds_for po rfl (di_val (g_ix hu (g_var 0) de_int)) (g_nm 5 nd)
  (ds_one (ds_if (t_w (dw_and (t_eq hu (g_ix hu (g_var 5) de_int) (g_ix hu (g_var 3) (g_var 4))) (dw_and (t_nin hu (g_ix hu (g_var 5) de_int) (g_var 3)) (dw_one (t_ne hu (g_ix hu (g_var 5) de_int) (g_var 2))))))
  (ds_one (s_expr (g_meth (mth_append) (g_var 3) (g_cons (g_ix hu (g_var 5) de_int) g_nil))))
  ds_nil)) (by intro _; rfl)))
  ds_nil)) (by intro _; rfl))
  (ds_one (ds_ret (g_var 3)))))
abbrev N__law_saved : List Str := ["flow", "state", "avoided", "one"]
theorem d__law_saved (G : Good P w K mg CL) (hk : 23 ≤ k) (ok : AllOk P w K mg base CL tab k c) {f : Addr} {cdv : Value} {A : Around} {outer : List Env} {s : Shared} {H : Hp} {E : XK} (hr : Room k (A.deeper (envOfC "_law_saved" (defScope (top 31)) s.heap.objs.size f cdv))) :
    DSs (cxOf (L2.CX P w) P w K mg base N__law_saved "_law_saved" (defScope (top 31)) f cdv A outer s H E) CL (fun cls d _ H => E cls d H) c (defBody (top 31)) b__law_saved := by
  have hu := hu_of23 hr hk
  have nd : (N__law_saved).Nodup := by decide
  have tk : Takes (cxOf (L2.CX P w) P w K mg base N__law_saved "_law_saved" (defScope (top 31)) f cdv A outer s H E) (fun cls d _ H => E cls d H) := takes_of rfl rfl rfl rfl
  have po : PassesOwn (model P w) (cxOf (L2.CX P w) P w K mg base N__law_saved "_law_saved" (defScope (top 31)) f cdv A outer s H E).A (cxOf (L2.CX P w) P w K mg base N__law_saved "_law_saved" (defScope (top 31)) f cdv A outer s H E).env (cxOf (L2.CX P w) P w K mg base N__law_saved "_law_saved" (defScope (top 31)) f cdv A outer s H E).xe := passes_of rfl
  exact (ds_one (ds_ret (g_any G.n_any rfl (g_cons (g_comp [(("one" : Str), 3)] rfl nd (di_val (g_call (ok__law_reach ok) hr tk (g_cons (g_var 0) (g_cons (g_var 1) (g_cons (g_var 2) g_nil))))) (fun s H C cl fp => (g_nm 3 nd)) (fun s H C cl fp => pts_none) (fun s H C cl fp => (g_in hu (g_var 3) (g_ix hu (g_var 0) de_int)))) g_nil))))
abbrev N__law_shortest : List Str := ["flow", "source", "target", "words", "k", "after", "way", "word"]
theorem d__law_shortest (G : Good P w K mg CL) (hk : 23 ≤ k) (ok : AllOk P w K mg base CL tab k c) {f : Addr} {cdv : Value} {A : Around} {outer : List Env} {s : Shared} {H : Hp} {E : XK} (hr : Room k (A.deeper (envOfC "_law_shortest" (defScope (top 32)) s.heap.objs.size f cdv))) :
    DSs (cxOf (L2.CX P w) P w K mg base N__law_shortest "_law_shortest" (defScope (top 32)) f cdv A outer s H E) CL (fun cls d _ H => E cls d H) c (defBody (top 32)) b__law_shortest := by
  have hu := hu_of23 hr hk
  have nd : (N__law_shortest).Nodup := by decide
  have tk : Takes (cxOf (L2.CX P w) P w K mg base N__law_shortest "_law_shortest" (defScope (top 32)) f cdv A outer s H E) (fun cls d _ H => E cls d H) := takes_of rfl rfl rfl rfl
  have po : PassesOwn (model P w) (cxOf (L2.CX P w) P w K mg base N__law_shortest "_law_shortest" (defScope (top 32)) f cdv A outer s H E).A (cxOf (L2.CX P w) P w K mg base N__law_shortest "_law_shortest" (defScope (top 32)) f cdv A outer s H E).env (cxOf (L2.CX P w) P w K mg base N__law_shortest "_law_shortest" (defScope (top 32)) f cdv A outer s H E).xe := passes_of rfl
  exact (ds_cons (s_set 3 nd (g_dict1 (g_var 1) (de_tup g_nil)))
  (ds_cons (ds_for po rfl (g_rng1 G.n_range de_int) (g_nm 4 nd)
  (ds_cons (ds_if (t_in hu (g_var 2) (g_var 3))
  (ds_one (ds_ret (g_ix hu (g_var 3) (g_var 2))))
  ds_nil)
  (ds_cons (s_set 5 nd g_dict0)
  (ds_cons (ds_for po rfl (di_val (g_ix hu (g_var 0) de_int)) (g_nm 6 nd)
  (ds_one (ds_if (t_in hu (g_ix hu (g_var 6) de_int) (g_var 3))
  (ds_cons (s_set 7 nd (g_add (g_ix hu (g_var 3) (g_ix hu (g_var 6) de_int)) (de_tup (g_cons (g_ix hu (g_var 6) de_int) g_nil))))
  (ds_one (ds_if (t_w (dw_or (t_nin hu (g_ix hu (g_var 6) de_int) (g_var 5)) (dw_one' (t_ltT hu (g_var 7) (g_ix hu (g_var 5) (g_ix hu (g_var 6) de_int))))))
  (ds_one (s_put hu (g_var 5) (g_ix hu (g_var 6) de_int) (g_var 7)))
  ds_nil)))
  ds_nil)) (by intro _; rfl))
  (ds_one (s_set 3 nd (g_var 5)))))) (by intro _; rfl))
  (ds_one (ds_ret de_non))))
abbrev N__law_counted : List Str := ["flow", "source", "target", "length", "counts", "k", "before", "way"]
theorem d__law_counted (G : Good P w K mg CL) (hk : 23 ≤ k) (ok : AllOk P w K mg base CL tab k c) {f : Addr} {cdv : Value} {A : Around} {outer : List Env} {s : Shared} {H : Hp} {E : XK} (hr : Room k (A.deeper (envOfC "_law_counted" (defScope (top 33)) s.heap.objs.size f cdv))) :
    DSs (cxOf (L2.CX P w) P w K mg base N__law_counted "_law_counted" (defScope (top 33)) f cdv A outer s H E) CL (fun cls d _ H => E cls d H) c (defBody (top 33)) b__law_counted := by
  have hu := hu_of23 hr hk
  have nd : (N__law_counted).Nodup := by decide
  have tk : Takes (cxOf (L2.CX P w) P w K mg base N__law_counted "_law_counted" (defScope (top 33)) f cdv A outer s H E) (fun cls d _ H => E cls d H) := takes_of rfl rfl rfl rfl
  have po : PassesOwn (model P w) (cxOf (L2.CX P w) P w K mg base N__law_counted "_law_counted" (defScope (top 33)) f cdv A outer s H E).A (cxOf (L2.CX P w) P w K mg base N__law_counted "_law_counted" (defScope (top 33)) f cdv A outer s H E).env (cxOf (L2.CX P w) P w K mg base N__law_counted "_law_counted" (defScope (top 33)) f cdv A outer s H E).xe := passes_of rfl
  exact (ds_cons (s_set 4 nd (g_dict1 (g_var 2) de_int))
  (ds_cons (ds_for po rfl (g_rng1 G.n_range (g_var 3)) (g_nm 5 nd)
  (ds_cons (s_set 6 nd g_dict0)
  (ds_cons (ds_for po rfl (di_val (g_ix hu (g_var 0) de_int)) (g_nm 7 nd)
  (ds_one (ds_if (t_in hu (g_ix hu (g_var 7) de_int) (g_var 4))
  (ds_one (s_put hu (g_var 6) (g_ix hu (g_var 7) de_int) (g_add (g_meth (mth_get hu) (g_var 6) (g_cons (g_ix hu (g_var 7) de_int) (g_cons de_int g_nil))) (g_ix hu (g_var 4) (g_ix hu (g_var 7) de_int)))))
  ds_nil)) (by intro _; rfl))
  (ds_one (s_set 4 nd (g_var 6))))) (by intro _; rfl))
  (ds_one (ds_ret (g_meth (mth_get hu) (g_var 4) (g_cons (g_var 1) (g_cons de_int g_nil)))))))
abbrev N__law_least : List Str := ["flow", "state", "best", "k", "days", "way", "one"]
theorem d__law_least (G : Good P w K mg CL) (hk : 23 ≤ k) (ok : AllOk P w K mg base CL tab k c) {f : Addr} {cdv : Value} {A : Around} {outer : List Env} {s : Shared} {H : Hp} {E : XK} (hr : Room k (A.deeper (envOfC "_law_least" (defScope (top 34)) s.heap.objs.size f cdv))) :
    DSs (cxOf (L2.CX P w) P w K mg base N__law_least "_law_least" (defScope (top 34)) f cdv A outer s H E) CL (fun cls d _ H => E cls d H) c (defBody (top 34)) b__law_least := by
  have hu := hu_of23 hr hk
  have nd : (N__law_least).Nodup := by decide
  have tk : Takes (cxOf (L2.CX P w) P w K mg base N__law_least "_law_least" (defScope (top 34)) f cdv A outer s H E) (fun cls d _ H => E cls d H) := takes_of rfl rfl rfl rfl
  have po : PassesOwn (model P w) (cxOf (L2.CX P w) P w K mg base N__law_least "_law_least" (defScope (top 34)) f cdv A outer s H E).A (cxOf (L2.CX P w) P w K mg base N__law_least "_law_least" (defScope (top 34)) f cdv A outer s H E).env (cxOf (L2.CX P w) P w K mg base N__law_least "_law_least" (defScope (top 34)) f cdv A outer s H E).xe := passes_of rfl
  exact (ds_cons (s_set 2 nd (g_dict1 (g_var 1) de_int))
  (ds_cons (ds_for po rfl (g_rng1 G.n_range de_int) (g_nm 3 nd)
  (ds_one (ds_for po rfl (di_val (g_ix hu (g_var 0) de_int)) (g_nm 5 nd)
  (ds_one (ds_if (t_w (dw_and (t_in hu (g_ix hu (g_var 5) de_int) (g_var 2)) (dw_one (t_lt (g_add (g_ix hu (g_var 2) (g_ix hu (g_var 5) de_int)) (g_ix hu (g_var 5) de_int)) (g_meth (mth_get hu) (g_var 2) (g_cons (g_ix hu (g_var 5) de_int) (g_cons (g_pow de_int de_int) g_nil)))))))
  (ds_one (s_put hu (g_var 2) (g_ix hu (g_var 5) de_int) (g_add (g_ix hu (g_var 2) (g_ix hu (g_var 5) de_int)) (g_ix hu (g_var 5) de_int))))
  ds_nil)) (by intro _; rfl))) (by intro _; rfl))
  (ds_cons (s_setc 4 [(("one" : Str), 6)] rfl nd (di_val (g_ix hu (g_var 0) de_int)) (fun s H C cl fp => (g_nm 6 nd)) (fun s H C cl fp => (pts_one (t_in hu (g_var 6) (g_var 2)))) (fun s H C cl fp => (g_ix hu (g_var 2) (g_var 6))))
  (ds_cons (ds_if (t_eq hu (g_len G.n_len (g_cons (g_var 4) g_nil)) de_int)
  (ds_one (ds_ret de_non))
  ds_nil)
  (ds_one (ds_ret (g_minL G.n_min rfl hu (g_cons (g_var 4) g_nil))))))))
abbrev N__law_trip : List Str := ["flow", "state", "row", "names", "trip", "here", "k", "ways", "way"]
theorem d__law_trip (G : Good P w K mg CL) (hk : 23 ≤ k) (ok : AllOk P w K mg base CL tab k c) {f : Addr} {cdv : Value} {A : Around} {outer : List Env} {s : Shared} {H : Hp} {E : XK} (hr : Room k (A.deeper (envOfC "_law_trip" (defScope (top 35)) s.heap.objs.size f cdv))) :
    DSs (cxOf (L2.CX P w) P w K mg base N__law_trip "_law_trip" (defScope (top 35)) f cdv A outer s H E) CL (fun cls d _ H => E cls d H) c (defBody (top 35)) b__law_trip := by
  have hu := hu_of23 hr hk
  have nd : (N__law_trip).Nodup := by decide
  have tk : Takes (cxOf (L2.CX P w) P w K mg base N__law_trip "_law_trip" (defScope (top 35)) f cdv A outer s H E) (fun cls d _ H => E cls d H) := takes_of rfl rfl rfl rfl
  have po : PassesOwn (model P w) (cxOf (L2.CX P w) P w K mg base N__law_trip "_law_trip" (defScope (top 35)) f cdv A outer s H E).A (cxOf (L2.CX P w) P w K mg base N__law_trip "_law_trip" (defScope (top 35)) f cdv A outer s H E).env (cxOf (L2.CX P w) P w K mg base N__law_trip "_law_trip" (defScope (top 35)) f cdv A outer s H E).xe := passes_of rfl
  exact (ds_cons (s_set 4 nd (de_lst g_nil))
  (ds_cons (s_set 5 nd (g_var 1))
  (ds_cons (ds_for po rfl (g_rng1 G.n_range (g_ix hu (g_var 2) de_int)) (g_nm 6 nd)
  (ds_cons (s_setc 7 [(("way" : Str), 8)] rfl nd (di_val (g_ix hu (g_var 0) de_int)) (fun s H C cl fp => (g_nm 8 nd)) (fun s H C cl fp => (pts_one (t_eq hu (g_ix hu (g_var 8) de_int) (g_var 5)))) (fun s H C cl fp => (g_var 8)))
  (ds_one (ds_if (t_w (dw_or (t_eq hu (g_len G.n_len (g_cons (g_var 7) g_nil)) de_int) (dw_one' (t_eq hu (g_ix hu (g_var 2) (g_add de_int (g_mul de_int (g_var 6)))) de_int))))
  (ds_one (s_expr (g_meth (mth_append) (g_var 4) (g_cons (g_ix hu (g_var 3) (g_ix hu (g_var 2) (g_add de_int (g_mul de_int (g_var 6))))) g_nil))))
  (ds_cons (s_set 8 nd (g_ix hu (g_var 7) (g_mod (g_int G.n_int (g_cons (g_ix hu (g_var 2) (g_add de_int (g_mul de_int (g_var 6)))) g_nil)) (g_len G.n_len (g_cons (g_var 7) g_nil)))))
  (ds_cons (s_expr (g_meth (mth_append) (g_var 4) (g_cons (g_ix hu (g_var 8) de_int) g_nil)))
  (ds_one (s_set 5 nd (g_ix hu (g_var 8) de_int)))))))) (by intro _; rfl))
  (ds_one (ds_ret (g_tuple G.n_tuple (g_cons (g_var 4) g_nil)))))))
abbrev N__law_along : List Str := ["flow", "state", "trip", "here", "name", "after", "way"]
theorem d__law_along (G : Good P w K mg CL) (hk : 23 ≤ k) (ok : AllOk P w K mg base CL tab k c) {f : Addr} {cdv : Value} {A : Around} {outer : List Env} {s : Shared} {H : Hp} {E : XK} (hr : Room k (A.deeper (envOfC "_law_along" (defScope (top 36)) s.heap.objs.size f cdv))) :
    DSs (cxOf (L2.CX P w) P w K mg base N__law_along "_law_along" (defScope (top 36)) f cdv A outer s H E) CL (fun cls d _ H => E cls d H) c (defBody (top 36)) b__law_along := by
  have hu := hu_of23 hr hk
  have nd : (N__law_along).Nodup := by decide
  have tk : Takes (cxOf (L2.CX P w) P w K mg base N__law_along "_law_along" (defScope (top 36)) f cdv A outer s H E) (fun cls d _ H => E cls d H) := takes_of rfl rfl rfl rfl
  have po : PassesOwn (model P w) (cxOf (L2.CX P w) P w K mg base N__law_along "_law_along" (defScope (top 36)) f cdv A outer s H E).A (cxOf (L2.CX P w) P w K mg base N__law_along "_law_along" (defScope (top 36)) f cdv A outer s H E).env (cxOf (L2.CX P w) P w K mg base N__law_along "_law_along" (defScope (top 36)) f cdv A outer s H E).xe := passes_of rfl
  exact (ds_cons (s_set 3 nd (g_var 1))
  (ds_cons (ds_for po rfl (di_val (g_var 2)) (g_nm 4 nd)
  (ds_cons (s_setc 5 [(("way" : Str), 6)] rfl nd (di_val (g_ix hu (g_var 0) de_int)) (fun s H C cl fp => (g_nm 6 nd)) (fun s H C cl fp => (pts_one (t_w (dw_and (t_eq hu (g_ix hu (g_var 6) de_int) (g_var 3)) (dw_one (t_eq hu (g_ix hu (g_var 6) de_int) (g_var 4))))))) (fun s H C cl fp => (g_ix hu (g_var 6) de_int)))
  (ds_cons (ds_if (t_eq hu (g_len G.n_len (g_cons (g_var 5) g_nil)) de_int)
  (ds_one (ds_ret de_non))
  ds_nil)
  (ds_one (s_set 3 nd (g_ix hu (g_var 5) de_int))))) (by intro _; rfl))
  (ds_one (ds_ret (g_var 3)))))
abbrev N__law_asked : List Str := ["which", "flow", "state", "other", "more"]
theorem d__law_asked (G : Good P w K mg CL) (hk : 23 ≤ k) (ok : AllOk P w K mg base CL tab k c) {f : Addr} {cdv : Value} {A : Around} {outer : List Env} {s : Shared} {H : Hp} {E : XK} (hr : Room k (A.deeper (envOfC "_law_asked" (defScope (top 37)) s.heap.objs.size f cdv))) :
    DSs (cxOf (L2.CX P w) P w K mg base N__law_asked "_law_asked" (defScope (top 37)) f cdv A outer s H E) CL (fun cls d _ H => E cls d H) c (defBody (top 37)) b__law_asked := by
  have hu := hu_of23 hr hk
  have nd : (N__law_asked).Nodup := by decide
  have tk : Takes (cxOf (L2.CX P w) P w K mg base N__law_asked "_law_asked" (defScope (top 37)) f cdv A outer s H E) (fun cls d _ H => E cls d H) := takes_of rfl rfl rfl rfl
  have po : PassesOwn (model P w) (cxOf (L2.CX P w) P w K mg base N__law_asked "_law_asked" (defScope (top 37)) f cdv A outer s H E).A (cxOf (L2.CX P w) P w K mg base N__law_asked "_law_asked" (defScope (top 37)) f cdv A outer s H E).env (cxOf (L2.CX P w) P w K mg base N__law_asked "_law_asked" (defScope (top 37)) f cdv A outer s H E).xe := passes_of rfl
  exact (ds_cons (ds_if (t_eq hu (g_var 0) de_int)
  (ds_one (ds_ret (g_call (ok_reachable ok) hr tk (g_cons (g_var 1) (g_cons (g_var 2) g_nil)))))
  ds_nil)
  (ds_cons (ds_if (t_eq hu (g_var 0) de_int)
  (ds_one (ds_ret (g_call (ok_must_pass ok) hr tk (g_cons (g_var 1) (g_cons (g_var 2) g_nil)))))
  ds_nil)
  (ds_cons (ds_if (t_eq hu (g_var 0) de_int)
  (ds_one (ds_ret (g_call (ok_least_days ok) hr tk (g_cons (g_var 1) (g_cons (g_var 2) g_nil)))))
  ds_nil)
  (ds_cons (ds_if (t_eq hu (g_var 0) de_int)
  (ds_one (ds_ret (g_call (ok_shortest_walk ok) hr tk (g_cons (g_var 1) (g_cons (g_var 2) (g_cons (g_var 3) g_nil))))))
  ds_nil)
  (ds_cons (ds_if (t_eq hu (g_var 0) de_int)
  (ds_one (ds_ret (g_call (ok_count_walks ok) hr tk (g_cons (g_var 1) (g_cons (g_var 2) (g_cons (g_var 3) (g_cons (g_var 4) g_nil)))))))
  ds_nil)
  (ds_one (ds_ret (g_call (ok_walk_along ok) hr tk (g_cons (g_var 1) (g_cons (g_var 2) (g_cons (g_var 4) g_nil)))))))))))
abbrev N__law_told : List Str := ["which", "flow", "state", "other", "more", "e"]
theorem d__law_told (G : Good P w K mg CL) (hk : 23 ≤ k) (ok : AllOk P w K mg base CL tab k c) {f : Addr} {cdv : Value} {A : Around} {outer : List Env} {s : Shared} {H : Hp} {E : XK} (hr : Room k (A.deeper (envOfC "_law_told" (defScope (top 38)) s.heap.objs.size f cdv))) :
    DSs (cxOf (L2.CX P w) P w K mg base N__law_told "_law_told" (defScope (top 38)) f cdv A outer s H E) CL (fun cls d _ H => E cls d H) c (defBody (top 38)) b__law_told := by
  have hu := hu_of23 hr hk
  have nd : (N__law_told).Nodup := by decide
  have tk : Takes (cxOf (L2.CX P w) P w K mg base N__law_told "_law_told" (defScope (top 38)) f cdv A outer s H E) (fun cls d _ H => E cls d H) := takes_of rfl rfl rfl rfl
  have po : PassesOwn (model P w) (cxOf (L2.CX P w) P w K mg base N__law_told "_law_told" (defScope (top 38)) f cdv A outer s H E).A (cxOf (L2.CX P w) P w K mg base N__law_told "_law_told" (defScope (top 38)) f cdv A outer s H E).env (cxOf (L2.CX P w) P w K mg base N__law_told "_law_told" (defScope (top 38)) f cdv A outer s H E).xe := passes_of rfl
  exact (ds_cons (ds_tries (nmf := nmf) rfl rfl nd tk G.xall.nm (fun W pn xe tk po => (ds_one (ds_ret (de_tup (g_cons g_str (g_cons (g_call (ok__law_asked ok) hr tk (g_cons (g_var 0) (g_cons (g_var 1) (g_cons (g_var 2) (g_cons (g_var 3) (g_cons (g_var 4) g_nil)))))) g_nil))))))
  (.named rfl rfl ⟨rfl, by decide, Or.inl G.g_Missing⟩ G.e_Missing (fun a oe d pn k y hy hk hz hf => (ds_one (ds_if (t_w (dw_and (t_val (g_isXo G.xall hy hz hf G.n_isinstance G.g_SnagError (G.i_SnagError k y hy) (g_var 5))) (dw_one (t_val (g_isXb (T := "ValueError") G.xall hy hz hf G.n_isinstance G.n_ValueError (G.i_ValueError k y hy) (g_var 5))))))
  (ds_one (ds_ret (de_tup (g_cons g_str (g_cons (g_fld G.xall hy hz hf (g_var 5)) g_nil)))))
  ds_nil)))
  (.named rfl rfl ⟨rfl, by decide, Or.inl G.g_BadValue⟩ G.e_BadValue (fun a oe d pn k y hy hk hz hf => (ds_one (ds_if (t_w (dw_and (t_val (g_isXo G.xall hy hz hf G.n_isinstance G.g_SnagError (G.i_SnagError k y hy) (g_var 5))) (dw_one (t_val (g_isXb (T := "ValueError") G.xall hy hz hf G.n_isinstance G.n_ValueError (G.i_ValueError k y hy) (g_var 5))))))
  (ds_one (ds_ret (de_tup (g_cons g_str (g_cons (g_fld G.xall hy hz hf (g_var 5)) g_nil)))))
  ds_nil)))
  (.named rfl rfl ⟨rfl, by decide, Or.inl G.g_Refused⟩ G.e_Refused (fun a oe d pn k y hy hk hz hf => (ds_one (ds_if (t_w (dw_and (t_val (g_isXo G.xall hy hz hf G.n_isinstance G.g_SnagError (G.i_SnagError k y hy) (g_var 5))) (dw_one (t_val (g_isXb (T := "ValueError") G.xall hy hz hf G.n_isinstance G.n_ValueError (G.i_ValueError k y hy) (g_var 5))))))
  (ds_one (ds_ret (de_tup (g_cons g_str (g_cons (g_fld G.xall hy hz hf (g_var 5)) g_nil)))))
  ds_nil)))
  .nil))))
  (ds_one (ds_ret (de_tup (g_cons g_str (g_cons g_str g_nil))))))
abbrev N__law_state_told : List Str := ["flow", "state", "reach", "due", "one"]
theorem d__law_state_told (G : Good P w K mg CL) (hk : 23 ≤ k) (ok : AllOk P w K mg base CL tab k c) {f : Addr} {cdv : Value} {A : Around} {outer : List Env} {s : Shared} {H : Hp} {E : XK} (hr : Room k (A.deeper (envOfC "_law_state_told" (defScope (top 39)) s.heap.objs.size f cdv))) :
    DSs (cxOf (L2.CX P w) P w K mg base N__law_state_told "_law_state_told" (defScope (top 39)) f cdv A outer s H E) CL (fun cls d _ H => E cls d H) c (defBody (top 39)) b__law_state_told := by
  have hu := hu_of23 hr hk
  have nd : (N__law_state_told).Nodup := by decide
  have tk : Takes (cxOf (L2.CX P w) P w K mg base N__law_state_told "_law_state_told" (defScope (top 39)) f cdv A outer s H E) (fun cls d _ H => E cls d H) := takes_of rfl rfl rfl rfl
  have po : PassesOwn (model P w) (cxOf (L2.CX P w) P w K mg base N__law_state_told "_law_state_told" (defScope (top 39)) f cdv A outer s H E).A (cxOf (L2.CX P w) P w K mg base N__law_state_told "_law_state_told" (defScope (top 39)) f cdv A outer s H E).env (cxOf (L2.CX P w) P w K mg base N__law_state_told "_law_state_told" (defScope (top 39)) f cdv A outer s H E).xe := passes_of rfl
  exact (ds_cons (s_set 2 nd (g_call (ok__law_reach ok) hr tk (g_cons (g_var 0) (g_cons (g_var 1) (g_cons g_str g_nil)))))
  (ds_cons (s_set 3 nd (de_tup (g_cons g_str (g_cons (g_tuple G.n_tuple (g_cons (g_comp [(("one" : Str), 4)] rfl nd (di_val (g_ix hu (g_var 0) de_int)) (fun s H C cl fp => (g_nm 4 nd)) (fun s H C cl fp => (pts_one (t_in hu (g_var 4) (g_var 2)))) (fun s H C cl fp => (g_var 4))) g_nil)) g_nil))))
  (ds_cons (ds_if (dt_not (t_val (g_call (ok__law_same ok) hr tk (g_cons (g_call (ok__law_told ok) hr tk (g_cons de_int (g_cons (g_var 0) (g_cons (g_var 1) (g_cons g_str (g_cons de_int g_nil)))))) (g_cons (g_var 3) g_nil)))))
  (ds_one (ds_ret de_bl))
  ds_nil)
  (ds_cons (s_set 3 nd (de_tup (g_cons g_str (g_cons g_str g_nil))))
  (ds_cons (ds_if (t_val (g_call (ok__law_saved ok) hr tk (g_cons (g_var 0) (g_cons (g_var 1) (g_cons g_str g_nil)))))
  (ds_one (s_set 3 nd (de_tup (g_cons g_str (g_cons (g_tuple G.n_tuple (g_cons (g_comp [(("one" : Str), 4)] rfl nd (di_val (g_ix hu (g_var 0) de_int)) (fun s H C cl fp => (g_nm 4 nd)) (fun s H C cl fp => (pts_one (t_w (dw_or (t_eq hu (g_var 4) (g_var 1)) (dw_one' (dt_not (t_val (g_call (ok__law_saved ok) hr takes00 (g_cons (g_var 0) (g_cons (g_var 1) (g_cons (g_var 4) g_nil))))))))))) (fun s H C cl fp => (g_var 4))) g_nil)) g_nil)))))
  ds_nil)
  (ds_cons (ds_if (dt_not (t_val (g_call (ok__law_same ok) hr tk (g_cons (g_call (ok__law_told ok) hr tk (g_cons de_int (g_cons (g_var 0) (g_cons (g_var 1) (g_cons g_str (g_cons de_int g_nil)))))) (g_cons (g_var 3) g_nil)))))
  (ds_one (ds_ret de_bl))
  ds_nil)
  (ds_one (ds_ret (g_call (ok__law_same ok) hr tk (g_cons (g_call (ok__law_told ok) hr tk (g_cons de_int (g_cons (g_var 0) (g_cons (g_var 1) (g_cons g_str (g_cons de_int g_nil)))))) (g_cons (de_tup (g_cons g_str (g_cons (g_call (ok__law_least ok) hr tk (g_cons (g_var 0) (g_cons (g_var 1) g_nil))) g_nil))) g_nil)))))))))))
abbrev N__law_pair_told : List Str := ["flow", "state", "other", "length", "due"]
theorem d__law_pair_told (G : Good P w K mg CL) (hk : 23 ≤ k) (ok : AllOk P w K mg base CL tab k c) {f : Addr} {cdv : Value} {A : Around} {outer : List Env} {s : Shared} {H : Hp} {E : XK} (hr : Room k (A.deeper (envOfC "_law_pair_told" (defScope (top 40)) s.heap.objs.size f cdv))) :
    DSs (cxOf (L2.CX P w) P w K mg base N__law_pair_told "_law_pair_told" (defScope (top 40)) f cdv A outer s H E) CL (fun cls d _ H => E cls d H) c (defBody (top 40)) b__law_pair_told := by
  have hu := hu_of23 hr hk
  have nd : (N__law_pair_told).Nodup := by decide
  have tk : Takes (cxOf (L2.CX P w) P w K mg base N__law_pair_told "_law_pair_told" (defScope (top 40)) f cdv A outer s H E) (fun cls d _ H => E cls d H) := takes_of rfl rfl rfl rfl
  have po : PassesOwn (model P w) (cxOf (L2.CX P w) P w K mg base N__law_pair_told "_law_pair_told" (defScope (top 40)) f cdv A outer s H E).A (cxOf (L2.CX P w) P w K mg base N__law_pair_told "_law_pair_told" (defScope (top 40)) f cdv A outer s H E).env (cxOf (L2.CX P w) P w K mg base N__law_pair_told "_law_pair_told" (defScope (top 40)) f cdv A outer s H E).xe := passes_of rfl
  exact (ds_cons (ds_if (dt_not (t_val (g_call (ok__law_same ok) hr tk (g_cons (g_call (ok__law_told ok) hr tk (g_cons de_int (g_cons (g_var 0) (g_cons (g_var 1) (g_cons (g_var 2) (g_cons de_int g_nil)))))) (g_cons (de_tup (g_cons g_str (g_cons (g_call (ok__law_shortest ok) hr tk (g_cons (g_var 0) (g_cons (g_var 1) (g_cons (g_var 2) g_nil)))) g_nil))) g_nil)))))
  (ds_one (ds_ret de_bl))
  ds_nil)
  (ds_cons (s_set 4 nd (de_tup (g_cons g_str (g_cons g_str g_nil))))
  (ds_cons (ds_if (t_w (dw_and (t_le de_int (g_var 3)) (dw_one (t_le (g_var 3) de_int))))
  (ds_one (s_set 4 nd (de_tup (g_cons g_str (g_cons (g_call (ok__law_counted ok) hr tk (g_cons (g_var 0) (g_cons (g_var 1) (g_cons (g_var 2) (g_cons (g_var 3) g_nil))))) g_nil)))))
  ds_nil)
  (ds_one (ds_ret (g_call (ok__law_same ok) hr tk (g_cons (g_call (ok__law_told ok) hr tk (g_cons de_int (g_cons (g_var 0) (g_cons (g_var 1) (g_cons (g_var 2) (g_cons (g_var 3) g_nil)))))) (g_cons (g_var 4) g_nil))))))))
abbrev N__law_strangers_told : List Str := ["flow", "state", "first", "second", "length", "trip", "which"]
theorem d__law_strangers_told (G : Good P w K mg CL) (hk : 23 ≤ k) (ok : AllOk P w K mg base CL tab k c) {f : Addr} {cdv : Value} {A : Around} {outer : List Env} {s : Shared} {H : Hp} {E : XK} (hr : Room k (A.deeper (envOfC "_law_strangers_told" (defScope (top 41)) s.heap.objs.size f cdv))) :
    DSs (cxOf (L2.CX P w) P w K mg base N__law_strangers_told "_law_strangers_told" (defScope (top 41)) f cdv A outer s H E) CL (fun cls d _ H => E cls d H) c (defBody (top 41)) b__law_strangers_told := by
  have hu := hu_of23 hr hk
  have nd : (N__law_strangers_told).Nodup := by decide
  have tk : Takes (cxOf (L2.CX P w) P w K mg base N__law_strangers_told "_law_strangers_told" (defScope (top 41)) f cdv A outer s H E) (fun cls d _ H => E cls d H) := takes_of rfl rfl rfl rfl
  have po : PassesOwn (model P w) (cxOf (L2.CX P w) P w K mg base N__law_strangers_told "_law_strangers_told" (defScope (top 41)) f cdv A outer s H E).A (cxOf (L2.CX P w) P w K mg base N__law_strangers_told "_law_strangers_told" (defScope (top 41)) f cdv A outer s H E).env (cxOf (L2.CX P w) P w K mg base N__law_strangers_told "_law_strangers_told" (defScope (top 41)) f cdv A outer s H E).xe := passes_of rfl
  exact (ds_cons (ds_for po rfl (di_val (de_lst (g_cons de_int (g_cons de_int (g_cons de_int g_nil))))) (g_nm 6 nd)
  (ds_one (ds_if (dt_not (t_val (g_call (ok__law_same ok) hr tk (g_cons (g_call (ok__law_told ok) hr tk (g_cons (g_var 6) (g_cons (g_var 0) (g_cons (g_var 2) (g_cons (g_var 3) (g_cons (g_var 4) g_nil)))))) (g_cons (de_tup (g_cons g_str (g_cons (g_var 2) g_nil))) g_nil)))))
  (ds_one (ds_ret de_bl))
  ds_nil)) (by intro _; rfl))
  (ds_cons (ds_if (dt_not (t_val (g_call (ok__law_same ok) hr tk (g_cons (g_call (ok__law_told ok) hr tk (g_cons de_int (g_cons (g_var 0) (g_cons (g_var 3) (g_cons g_str (g_cons (g_var 5) g_nil)))))) (g_cons (de_tup (g_cons g_str (g_cons (g_var 3) g_nil))) g_nil)))))
  (ds_one (ds_ret de_bl))
  ds_nil)
  (ds_cons (ds_for po rfl (di_val (de_lst (g_cons de_int (g_cons de_int g_nil)))) (g_nm 6 nd)
  (ds_cons (ds_if (dt_not (t_val (g_call (ok__law_same ok) hr tk (g_cons (g_call (ok__law_told ok) hr tk (g_cons (g_var 6) (g_cons (g_var 0) (g_cons (g_var 2) (g_cons (g_var 1) (g_cons (g_var 4) g_nil)))))) (g_cons (de_tup (g_cons g_str (g_cons (g_var 2) g_nil))) g_nil)))))
  (ds_one (ds_ret de_bl))
  ds_nil)
  (ds_cons (ds_if (dt_not (t_val (g_call (ok__law_same ok) hr tk (g_cons (g_call (ok__law_told ok) hr tk (g_cons (g_var 6) (g_cons (g_var 0) (g_cons (g_var 1) (g_cons (g_var 3) (g_cons (g_var 4) g_nil)))))) (g_cons (de_tup (g_cons g_str (g_cons (g_var 3) g_nil))) g_nil)))))
  (ds_one (ds_ret de_bl))
  ds_nil)
  (ds_one (ds_if (dt_not (t_val (g_call (ok__law_same ok) hr tk (g_cons (g_call (ok__law_told ok) hr tk (g_cons (g_var 6) (g_cons (g_var 0) (g_cons (g_var 3) (g_cons (g_var 2) (g_cons (g_var 4) g_nil)))))) (g_cons (de_tup (g_cons g_str (g_cons (g_var 3) g_nil))) g_nil)))))
  (ds_one (ds_ret de_bl))
  ds_nil)))) (by intro _; rfl))
  (ds_one (ds_ret de_bl)))))
abbrev N_law : List Str := ["script", "states", "names", "roles", "flow", "row", "source", "length", "dead", "state", "trip"]
theorem d_law (G : Good P w K mg CL) (hk : 23 ≤ k) (ok : AllOk P w K mg base CL tab k c) {f : Addr} {cdv : Value} {A : Around} {outer : List Env} {s : Shared} {H : Hp} {E : XK} (hr : Room k (A.deeper (envOfC "law" (defScope (top 42)) s.heap.objs.size f cdv))) :
    DSs (cxOf (L2.CX P w) P w K mg base N_law "law" (defScope (top 42)) f cdv A outer s H E) CL (fun cls d _ H => E cls d H) c (defBody (top 42)) b_law := by
  have hu := hu_of23 hr hk
  have nd : (N_law).Nodup := by decide
  have tk : Takes (cxOf (L2.CX P w) P w K mg base N_law "law" (defScope (top 42)) f cdv A outer s H E) (fun cls d _ H => E cls d H) := takes_of rfl rfl rfl rfl
  have po : PassesOwn (model P w) (cxOf (L2.CX P w) P w K mg base N_law "law" (defScope (top 42)) f cdv A outer s H E).A (cxOf (L2.CX P w) P w K mg base N_law "law" (defScope (top 42)) f cdv A outer s H E).env (cxOf (L2.CX P w) P w K mg base N_law "law" (defScope (top 42)) f cdv A outer s H E).xe := passes_of rfl
  exact (ds_cons (s_set 1 nd (g_call (ok__law_names ok) hr tk (g_cons (g_call (ok__law_cell ok) hr tk (g_cons (g_var 0) (g_cons de_int g_nil))) (g_cons de_int g_nil))))
  (ds_cons (s_set 2 nd (g_call (ok__law_names ok) hr tk (g_cons (g_call (ok__law_cell ok) hr tk (g_cons (g_var 0) (g_cons de_int g_nil))) (g_cons de_int g_nil))))
  (ds_cons (s_set 3 nd (g_add (de_lst (g_cons g_str g_nil)) (g_call (ok__law_names ok) hr tk (g_cons (g_call (ok__law_cell ok) hr tk (g_cons (g_var 0) (g_cons de_int g_nil))) (g_cons de_int g_nil)))))
  (ds_cons (s_set 4 nd (g_call (ok__law_flow ok) hr tk (g_cons (g_call (ok__law_cell ok) hr tk (g_cons (g_var 0) (g_cons de_int g_nil))) (g_cons (de_cut (g_var 1) dp_no (dp_yes de_int)) (g_cons (g_var 2) (g_cons (g_var 3) g_nil))))))
  (ds_cons (s_set 5 nd (g_call (ok__law_digits ok) hr tk (g_cons (g_call (ok__law_cell ok) hr tk (g_cons (g_var 0) (g_cons de_int g_nil))) (g_cons (de_lst (g_cons de_int (g_cons de_int (g_cons de_int g_nil)))) g_nil))))
  (ds_cons (s_set 6 nd (g_ix hu (g_ix hu (g_var 4) de_int) (g_mod (g_int G.n_int (g_cons (g_ix hu (g_var 5) de_int) g_nil)) (g_len G.n_len (g_cons (g_ix hu (g_var 4) de_int) g_nil)))))
  (ds_cons (s_set 7 nd (g_sub (g_ix hu (g_var 5) de_int) de_int))
  (ds_cons (ds_if (t_eq hu (g_ix hu (g_var 5) de_int) de_int)
  (ds_one (s_set 7 nd (g_pow de_int de_int)))
  ds_nil)
  (ds_cons (s_set 8 nd (g_tuple G.n_tuple (g_cons (g_comp [(("state" : Str), 9)] rfl nd (di_val (g_ix hu (g_var 4) de_int)) (fun s H C cl fp => (g_nm 9 nd)) (fun s H C cl fp => (pts_one (dt_not (t_val (g_call (ok__law_saved ok) hr takes00 (g_cons (g_var 4) (g_cons (g_var 9) (g_cons g_str g_nil)))))))) (fun s H C cl fp => (g_var 9))) g_nil)))
  (ds_cons (ds_if (dt_not (t_val (g_call (ok__law_same ok) hr tk (g_cons (g_call (ok_dead_states ok) hr tk (g_cons (g_var 4) g_nil)) (g_cons (g_var 8) g_nil)))))
  (ds_one (ds_ret de_bl))
  ds_nil)
  (ds_cons (ds_for po rfl (di_val (g_ix hu (g_var 4) de_int)) (g_nm 9 nd)
  (ds_one (ds_if (t_w (dw_or (dt_not (t_val (g_call (ok__law_state_told ok) hr tk (g_cons (g_var 4) (g_cons (g_var 9) g_nil))))) (dw_one' (dt_not (t_val (g_call (ok__law_pair_told ok) hr tk (g_cons (g_var 4) (g_cons (g_var 6) (g_cons (g_var 9) (g_cons (g_var 7) g_nil))))))))))
  (ds_one (ds_ret de_bl))
  ds_nil)) (by intro _; rfl))
  (ds_cons (s_set 10 nd (g_call (ok__law_trip ok) hr tk (g_cons (g_var 4) (g_cons (g_var 6) (g_cons (g_call (ok__law_digits ok) hr tk (g_cons (g_call (ok__law_cell ok) hr tk (g_cons (g_var 0) (g_cons de_int g_nil))) (g_cons (g_add (de_lst (g_cons de_int g_nil)) (g_mul (de_lst (g_cons de_int (g_cons de_int g_nil))) de_int)) g_nil))) (g_cons (g_var 2) g_nil))))))
  (ds_cons (ds_if (dt_not (t_val (g_call (ok__law_same ok) hr tk (g_cons (g_call (ok__law_told ok) hr tk (g_cons de_int (g_cons (g_var 4) (g_cons (g_var 6) (g_cons g_str (g_cons (g_var 10) g_nil)))))) (g_cons (de_tup (g_cons g_str (g_cons (g_call (ok__law_along ok) hr tk (g_cons (g_var 4) (g_cons (g_var 6) (g_cons (g_var 10) g_nil)))) g_nil))) g_nil)))))
  (ds_one (ds_ret de_bl))
  ds_nil)
  (ds_one (ds_ret (g_call (ok__law_strangers_told ok) hr tk (g_cons (g_var 4) (g_cons (g_var 6) (g_cons (g_ix hu (g_var 1) de_int) (g_cons (g_ix hu (g_var 1) de_int) (g_cons (g_var 7) (g_cons (g_var 10) g_nil))))))))))))))))))))))
end
end K04
namespace K04
open PySem L2 Ev
noncomputable abbrev T : List FnD := tab.map (·.2.2)
structure Way where
  n : List Nat
  s : List Nat
  t : List Nat
  d : Int
  r : List Nat
  ns : List D
def Way.D (w : Way) : D := .tup [.str w.n, .str w.s, .str w.t, .int w.d, .str w.r, .tup w.ns]
structure Flow where
  st : List (List Nat)
  cl : List (List Nat)
  ws : List Way
def Flow.D (f : Flow) : D := .tup [.tup (f.st.map D.str), .tup (f.cl.map D.str), .tup (f.ws.map Way.D)]
structure Way.ok (w : Way) : Prop where
  pl : D.plainA w.ns = true
structure Flow.ok (f : Flow) : Prop where
  nd : f.st.Nodup
  s8 : f.st.length ≤ 8
  w16 : f.ws.length ≤ 16
  clos : ∀ x ∈ f.cl, x ∈ f.st
  src : ∀ w ∈ f.ws, w.s ∈ f.st
  tgt : ∀ w ∈ f.ws, w.t ∈ f.st
  pl : ∀ w ∈ f.ws, D.plainA w.ns = true
  c8 : f.cl.length ≤ 8
  ne : ∀ x ∈ f.st, x ≠ []
end K04
namespace K04
open PySem L2 Ev
theorem dIx_tup {xs : List Ev.D} {k : Nat} {x : Ev.D} (h : Hd) (e : xs[k]? = some x) : dIx (.tup xs) (.int k) h = .ok x h := by
  have hk := (List.getElem?_eq_some_iff.mp e).1
  rw [List.getElem?_eq_getElem hk] at e
  cases e
  simp [dIx, dIxS, D.dict?, D.see, ixI, hk]
theorem f0 (f : Flow) (h : Hd) : dIx f.D (.int 0) h = .ok (.tup (f.st.map D.str)) h := dIx_tup (k := 0) h rfl
theorem f1 (f : Flow) (h : Hd) : dIx f.D (.int 1) h = .ok (.tup (f.cl.map D.str)) h := dIx_tup (k := 1) h rfl
theorem f2 (f : Flow) (h : Hd) : dIx f.D (.int 2) h = .ok (.tup (f.ws.map Way.D)) h := dIx_tup (k := 2) h rfl
theorem w0 (w : Way) (h : Hd) : dIx w.D (.int 0) h = .ok (.str w.n) h := dIx_tup (k := 0) h rfl
theorem w1 (w : Way) (h : Hd) : dIx w.D (.int 1) h = .ok (.str w.s) h := dIx_tup (k := 1) h rfl
theorem w2 (w : Way) (h : Hd) : dIx w.D (.int 2) h = .ok (.str w.t) h := dIx_tup (k := 2) h rfl
theorem w3 (w : Way) (h : Hd) : dIx w.D (.int 3) h = .ok (.int w.d) h := dIx_tup (k := 3) h rfl
theorem beq_dec (a b : List Nat) : (a == b) = decide (a = b) := by
  by_cases h : a = b <;> simp [h]
theorem eq_w {x y : List Nat} (h : Hd) : dEq false (.str x) (.str y) h = .ok (.bl (decide (x = y))) h := by
  simp [dEq, cmpOk, D.plain, near, D.dep, D.see, beq_dec]
theorem ne_w {x y : List Nat} (h : Hd) : dEq true (.str x) (.str y) h = .ok (.bl (decide (x ≠ y))) h := by
  simp [dEq, cmpOk, D.plain, near, D.dep, D.see, beq_dec]
theorem plain_strs (l : List (List Nat)) : D.plainA (l.map D.str) = true := by
  induction l with
  | nil => rfl
  | cons a l ih => simp [D.plainA, D.plain, ih]
theorem has_strs (x : List Nat) (l : List (List Nat)) : D.has (l.map D.str) (.str x) = decide (x ∈ l) := by
  induction l with
  | nil => rfl
  | cons a l ih =>
    rw [List.map_cons, has_str, ih]
    by_cases q : a = x
    · simp [q]
    · simp [q, Ne.symm q, beq_dec]
theorem in_tup {n : Bool} {x : List Nat} (l : List (List Nat)) (h : Hd) : dIn n (.str x) (.tup (l.map D.str)) h = .ok (.bl (n != decide (x ∈ l))) h := by
  have e : D.dict? h (.tup (l.map D.str)) = none := rfl
  have hc : cmpOk (.str x) (.tup (l.map D.str)) = true := by simp [cmpOk, near, D.plain, plain_strs, D.dep]
  simp [dIn, dInS, D.see, e, hc, has_strs]
theorem in_lst {n : Bool} {x : List Nat} (l : List (List Nat)) (h : Hd) : dIn n (.str x) (.lst (l.map D.str)) h = .ok (.bl (n != decide (x ∈ l))) h := by
  have e : D.dict? h (.lst (l.map D.str)) = none := rfl
  have hc : cmpOk (.str x) (.lst (l.map D.str)) = true := by simp [cmpOk, near, D.plain, plain_strs, D.dep]
  simp [dIn, dInS, D.see, e, hc, has_strs]
theorem Way.plain {w : Way} (h : D.plainA w.ns = true) : w.D.plain = true := by
  simp [Way.D, D.plain, D.plainA, h]
theorem plain_ws {ws : List Way} (h : ∀ w ∈ ws, D.plainA w.ns = true) : D.plainA (ws.map Way.D) = true := by
  induction ws with
  | nil => rfl
  | cons w ws ih =>
    rw [List.map_cons]
    simp only [D.plainA, Bool.and_eq_true]
    exact ⟨w.plain (h w (List.mem_cons_self ..)), ih fun x hx => h x (List.mem_cons_of_mem _ hx)⟩
theorem Flow.plain {f : Flow} (o : f.ok) : f.D.plain = true := by
  simp [Flow.D, D.plain, D.plainA, plain_strs, plain_ws o.pl]
theorem len_strs (l : List (List Nat)) (h : Hd) : gLen [.tup (l.map D.str)] h = .ok (.int (l.length : Nat)) h := by simp [gLen, D.dict?, D.see]
/-! ### small defs -/
theorem c_require {n : Nat} (hn : 1 ≤ n) (f : Flow) {x : List Nat} (hx : x ∈ f.st) (h : Hd) : callN T n 2 [f.D, .str x] h = .ok .non h := by
  obtain ⟨m, rfl⟩ := lvl hn
  rw [call_at (F := ⟨2, 2, b_require_state⟩) rfl]
  simp [runFn, b_require_state, f0, in_tup, hx, fin1_same]
theorem c_requireX {n : Nat} (hn : 1 ≤ n) (f : Flow) {x : List Nat} (hx : x ∉ f.st) (h : Hd) : callN T n 2 [f.D, .str x] h = .exn 1 [.str x] h := by
  obtain ⟨m, rfl⟩ := lvl hn
  rw [call_at (F := ⟨2, 2, b_require_state⟩) rfl]
  simp [runFn, b_require_state, f0, in_tup, hx, sRaise, finX]
def outs (f : Flow) (x : List Nat) : List Way := f.ws.filter fun w => decide (w.s = x)
theorem ways_comp {c : Calls} {t : Tau} {h : Hd} {x : List Nat} (src : Src) (hs : src.ok h) (t1 : t[1]? = some (some (.str x))) (tl : t.length = 3) : ∀ ws : List Way, compL src (stepC c (wipeT t [2]) (.nm 2) (tCmp (mOp (dEq false) (mOp dIx (mVar 2) (mC (.int 1))) (mVar 1))) (mVar 2)) (ws.map Way.D) h = .ok ((ws.filter fun w => decide (w.s = x)).map Way.D) h := by
  intro ws
  induction ws with
  | nil =>
    rw [List.map_nil]
    unfold compL
    rw [if_pos hs]
    rfl
  | cons w ws ih =>
    rw [List.map_cons]
    unfold compL
    rw [if_pos hs]
    have v2 : ((wipeT t [2]).set 2 (some w.D))[2]? = some (some w.D) := List.getElem?_set_self (by simp [wipeT, tl])
    have v1 : ((wipeT t [2]).set 2 (some w.D))[1]? = some (some (.str x)) := by simp [wipeT, List.getElem?_set_ne, t1]
    have est : stepC c (wipeT t [2]) (.nm 2) (tCmp (mOp (dEq false) (mOp dIx (mVar 2) (mC (.int 1))) (mVar 1))) (mVar 2) w.D h = .ok (if w.s = x then some w.D else none) h := by
      unfold stepC asg
      simp only [tCmp_ev, mOp_ev, mVar_ev, v2, v1, mC_ev, bind_ok, w1, eq_w, dBl_ev]
      by_cases q : w.s = x
      · simp [q, noX]
      · simp [q, noX]
    rw [est, bind_ok, ih, bind_ok]
    by_cases q : w.s = x
    · simp [q]
    · simp [q]
theorem c_ways {n : Nat} (hn : 2 ≤ n) {f : Flow} (o : f.ok) {x : List Nat} (hx : x ∈ f.st) (h : Hd) : callN T n 3 [f.D, .str x] h = .ok (.tup ((outs f x).map Way.D)) h := by
  obtain ⟨m, rfl⟩ := lvl hn
  rw [call_at (F := ⟨2, 3, b_ways_from⟩) rfl]
  have e1 := c_require (n := m + 1) (by omega) f hx h
  generalize callN T (m + 1) = c at e1
  have ea : ([f.D, .str x].map some ++ List.replicate (3 - 2) (none : Option Ev.D)) = [some f.D, some (.str x), none] := rfl
  rw [runFn_at (np := 2) (nn := 3) rfl ea]
  have wl : (f.ws.map Way.D).length ≤ 16777216 := by rw [List.length_map]; have := o.w16; omega
  have ec := ways_comp (c := c) (t := [some f.D, some (.str x), none]) (h := h) (x := x) ⟨f.ws.map Way.D, none⟩ trivial rfl rfl f.ws
  have ei : iVal (mOp dIx (mVar 0) (mC (.int 2))) c [some f.D, some (.str x), none] h = .ok ⟨f.ws.map Way.D, none⟩ h := by
    simp [f2, dIter]
  have em : mComp false (iVal (mOp dIx (mVar 0) (mC (.int 2)))) (.nm 2) [2] (tCmp (mOp (dEq false) (mOp dIx (mVar 2) (mC (.int 1))) (mVar 1))) (mVar 2) c [some f.D, some (.str x), none] h = .ok (.lst ((outs f x).map Way.D)) h := by
    unfold mComp
    rw [ei, bind_ok, ec, bind_ok]
    refine freshF _ ?_
    have := List.length_filter_le (fun w : Way => decide (w.s = x)) f.ws
    have := o.w16
    rw [List.length_map]; omega
  have gt : gTuple [.lst ((outs f x).map Way.D)] h = .ok (.tup ((outs f x).map Way.D)) h := by simp [gTuple, seqOf, D.see]
  have hb : b_ways_from = sSeq (sExpr (mCall 2 (aCons (mVar 0) (aCons (mVar 1) aNil)))) (sRet (mB gTuple (aCons (mComp false (iVal (mOp dIx (mVar 0) (mC (.int 2)))) (.nm 2) [2] (tCmp (mOp (dEq false) (mOp dIx (mVar 2) (mC (.int 1))) (mVar 1))) (mVar 2)) aNil))) := rfl
  have s1 : sExpr (mCall 2 (aCons (mVar 0) (aCons (mVar 1) aNil))) c [some f.D, some (.str x), none] h = .nx [some f.D, some (.str x), none] h := by simp [e1]
  rw [hb, sSeq_ev, s1, seq_nx, sRet_ev, mB_ev, aCons_ev, em]
  simp only [bind_ok, aNil_ev, gt, toS_ok, fin_rt]
  exact fin1_same (hd := plain_lo (by simp only [D.plain]; exact plain_ws fun w hw => o.pl w ((List.mem_filter.mp hw).1)))
theorem c_waysX {n : Nat} (hn : 2 ≤ n) {f : Flow} {x : List Nat} (hx : x ∉ f.st) (h : Hd) : callN T n 3 [f.D, .str x] h = .exn 1 [.str x] h := by
  obtain ⟨m, rfl⟩ := lvl hn
  rw [call_at (F := ⟨2, 3, b_ways_from⟩) rfl]
  have e1 := c_requireX (n := m + 1) (by omega) f hx h
  generalize callN T (m + 1) = c at e1
  simp [runFn, b_ways_from, e1, finX]
end K04

namespace K04
open PySem L2 Ev
/-! ### dicts with texts as keys -/
theorem eqv_key {p : Ev.D} {x : List Nat} (h : D.eqv p (.str x) = true) : p = .str x := by
  cases p with
  | str a => simp [eqv_str] at h; rw [h]
  | _ => simp [D.eqv] at h
theorem getD_putS (es : List (Ev.D × Ev.D)) (i j : List Nat) (v : Ev.D) : getD (putD es (.str i) v) (.str j) = if i = j then some v else getD es (.str j) := by
  have key : ∀ (es : List (Ev.D × Ev.D)), getD (es.map fun p => if D.eqv p.1 (.str i) = true then (p.1, v) else p) (.str j) = if i = j then (if (es.any fun p => D.eqv p.1 (.str i)) = true then some v else none) else getD es (.str j) := by
    intro es
    induction es with
    | nil => simp [getD]
    | cons p es ih =>
      unfold getD at ih ⊢
      rw [List.map_cons, List.find?_cons, List.find?_cons, List.any_cons]
      by_cases h1 : D.eqv p.1 (.str i) = true
      · simp only [h1, if_true, Bool.true_or]
        by_cases h2 : i = j
        · subst h2; simp [h1]
        · have h3 : D.eqv p.1 (.str j) = false := by
            rw [eqv_key h1, eqv_str]
            simpa using h2
          simp only [h3, h2, if_false] at ih ⊢
          exact ih
      · have h1' : D.eqv p.1 (.str i) = false := by simpa using h1
        simp only [h1', Bool.false_eq_true, if_false, Bool.false_or]
        cases h3 : D.eqv p.1 (.str j) with
        | true =>
          have : i ≠ j := by rintro rfl; rw [h1'] at h3; cases h3
          simp [this]
        | false => exact ih
  unfold putD
  by_cases h : (es.any fun p => D.eqv p.1 (.str i)) = true
  · rw [if_pos h, key, h]; simp
  · rw [if_neg h]
    unfold getD
    rw [List.find?_append]
    by_cases h2 : i = j
    · subst h2
      have : es.find? (fun p => D.eqv p.1 (.str i)) = none := by
        rw [List.find?_eq_none]
        intro p hp hq
        exact h (List.any_eq_true.mpr ⟨p, hp, hq⟩)
      rw [this]
      simp [eqv_str]
    · have : D.eqv (.str i) (.str j) = false := by rw [eqv_str]; simpa using h2
      simp [h2, this]
theorem in_dict {n : Bool} {x : List Nat} {es : List (Ev.D × Ev.D)} {h : Hd} {K : Nat} (e : h[K]? = some (.dict es)) : dIn n (.str x) (.ref K) h = .ok (.bl (n != (getD es (.str x)).isSome)) h := by
  have e1 : D.dict? h (.ref K) = some es := by simp [D.dict?, e]
  unfold dIn
  simp only [e1]
  rfl
theorem put_at {c : Calls} {t : Tau} {h : Hd} {i K : Nat} {es : List (Ev.D × Ev.D)} {mk mv : M} {k : List Nat} {v : Ev.D} (ti : t[i]? = some (some (.ref K))) (e : h[K]? = some (.dict es)) (ek : mk c t h = .ok (.str k) h) (ev : mv c t h = .ok v h) (hz : es.length < 16777216) : sPut (mVar i) mk mv c t h = .nx t (h.set K (.dict (putD es (.str k) v))) := by
  have : dPut (.ref K) (.str k) v h = .ok () (h.set K (.dict (putD es (.str k) v))) := by
    unfold dPut
    simp only [e]
    rw [if_pos ⟨rfl, hz⟩]
  simp only [sPut_ev, ev, toS_ok, mVar_ev, ti, ek, this]
/-- the dict's keys are F -/
structure Keys (es : List (Ev.D × Ev.D)) (F : List (List Nat)) : Prop where
  key : ∀ x, (getD es (.str x)).isSome = decide (x ∈ F)
  len : es.length ≤ F.length
theorem Keys.one (x : List Nat) (v : Ev.D) : Keys [(.str x, v)] [x] := by
  refine ⟨fun y => ?_, by simp⟩
  unfold getD
  rw [List.find?_cons]
  simp only [eqv_str]
  by_cases q : x = y
  · simp [q]
  · have : (x == y) = false := by simpa using q
    simp [this, Ne.symm q]
theorem Keys.put {es : List (Ev.D × Ev.D)} {F : List (List Nat)} (k : Keys es F) (x : List Nat) (v : Ev.D) : Keys (putD es (.str x) v) (F ++ [x]) := by
  refine ⟨fun y => ?_, by have := putD_len es (.str x) v; have := k.len; simp; omega⟩
  rw [getD_putS]
  by_cases q : x = y
  · simp [q]
  · simp [q, k.key, Ne.symm q]
/-! ### searching -/
/-- a way may be gone: its target is not the avoided one -/
def goes (a : Option (List Nat)) (w : Way) : Prop := some w.t ≠ a
instance (a : Option (List Nat)) (w : Way) : Decidable (goes a w) := inferInstanceAs (Decidable (_ ≠ _))
inductive Rch (f : Flow) (a : Option (List Nat)) (u : List Nat) : List Nat → Prop
  | refl : Rch f a u u
  | step {v : List Nat} {w : Way} : Rch f a u v → w ∈ f.ws → w.s = v → goes a w → Rch f a u w.t
/-- one way seen -/
def vis (a : Option (List Nat)) (p : List (List Nat) × List (List Nat)) (w : Way) : List (List Nat) × List (List Nat) :=
  if w.t ∉ p.1 ∧ goes a w then (p.1 ++ [w.t], p.2 ++ [w.t]) else p
/-- what holds between two turns of a search: F found, W waiting -/
structure Sea (f : Flow) (a : Option (List Nat)) (u : List Nat) (F W : List (List Nat)) : Prop where
  reach : ∀ x ∈ F, Rch f a u x
  st : ∀ x ∈ F, x ∈ f.st
  wf : ∀ x ∈ W, x ∈ F
  u : u ∈ F
  nd : F.Nodup
  done : ∀ x ∈ F, x ∉ W → ∀ w ∈ f.ws, w.s = x → goes a w → w.t ∈ F
theorem Sea.start {f : Flow} {a : Option (List Nat)} {u : List Nat} (hu : u ∈ f.st) : Sea f a u [u] [u] :=
  ⟨fun x hx => by rw [List.mem_singleton.mp hx]; exact .refl, fun x hx => by rw [List.mem_singleton.mp hx]; exact hu, fun x hx => hx, by simp, by simp, fun x hx hn => absurd hx hn⟩
/-- what has been found when nothing waits -/
theorem Sea.fin {f : Flow} {a : Option (List Nat)} {u : List Nat} {F : List (List Nat)} (s : Sea f a u F []) (x : List Nat) : x ∈ F ↔ Rch f a u x := by
  refine ⟨s.reach x, fun r => ?_⟩
  induction r with
  | refl => exact s.u
  | step _ hw hs hg ih => exact s.done _ ih (by simp) _ hw hs hg
theorem nodup_le {l m : List (List Nat)} (h : l.Nodup) (s : ∀ x ∈ l, x ∈ m) : l.length ≤ m.length := by
  induction l generalizing m with
  | nil => simp
  | cons x l ih =>
    have hn := List.nodup_cons.mp h
    have hx := s x (List.mem_cons_self ..)
    have := ih (m := m.erase x) hn.2 (fun y hy => by
      have h1 := s y (List.mem_cons_of_mem _ hy)
      have h2 : y ≠ x := by rintro rfl; exact hn.1 hy
      exact (List.mem_erase_of_ne h2).mpr h1)
    rw [List.length_erase_of_mem hx] at this
    have := List.length_pos_of_mem hx
    simp
    omega
/-- the ways of the last one that waits, seen one by one -/
theorem vis_fold {f : Flow} (o : f.ok) {a : Option (List Nat)} {u v : List Nat} : ∀ (ws : List Way) (F W : List (List Nat)), (∀ w ∈ ws, w ∈ f.ws ∧ w.s = v) →
    v ∈ F → (∀ x ∈ F, Rch f a u x) → (∀ x ∈ F, x ∈ f.st) → (∀ x ∈ W, x ∈ F) → u ∈ F → F.Nodup → (∀ x ∈ F, x ≠ v → x ∉ W → ∀ w ∈ f.ws, w.s = x → goes a w → w.t ∈ F) →
    ∃ F' W', ws.foldl (vis a) (F, W) = (F', W') ∧ (∀ x ∈ F, x ∈ F') ∧ (∀ x ∈ W, x ∈ W') ∧ (∀ x ∈ F', Rch f a u x) ∧ (∀ x ∈ F', x ∈ f.st) ∧ (∀ x ∈ W', x ∈ F') ∧ F'.Nodup ∧ (∀ x ∈ F', x ≠ v → x ∉ W' → ∀ w ∈ f.ws, w.s = x → goes a w → w.t ∈ F') ∧ (∀ w ∈ ws, goes a w → w.t ∈ F') ∧ F'.length + W.length = F.length + W'.length
  | [], F, W, hw, hv, h1, h2, h3, h4, h5, h6 => ⟨F, W, rfl, fun _ h => h, fun _ h => h, h1, h2, h3, h5, h6, fun w hw => absurd hw (by simp), rfl⟩
  | w :: ws, F, W, hw, hv, h1, h2, h3, h4, h5, h6 => by
    obtain ⟨hwm, hws⟩ := hw w (List.mem_cons_self ..)
    by_cases q : w.t ∉ F ∧ goes a w
    · have ev : vis a (F, W) w = (F ++ [w.t], W ++ [w.t]) := if_pos q
      obtain ⟨F', W', e, i1, i2, i3, i4, i5, i6, i7, i8, i9⟩ := vis_fold o (a := a) (u := u) (v := v) ws (F ++ [w.t]) (W ++ [w.t]) (fun x hx => hw x (List.mem_cons_of_mem _ hx)) (List.mem_append_left _ hv)
        (fun x hx => by
          rcases List.mem_append.mp hx with hx | hx
          · exact h1 x hx
          · rw [List.mem_singleton.mp hx]; exact .step (h1 v hv) hwm hws q.2)
        (fun x hx => by
          rcases List.mem_append.mp hx with hx | hx
          · exact h2 x hx
          · rw [List.mem_singleton.mp hx]; exact o.tgt w hwm)
        (fun x hx => by
          rcases List.mem_append.mp hx with hx | hx
          · exact List.mem_append_left _ (h3 x hx)
          · exact List.mem_append_right _ hx)
        (List.mem_append_left _ h4)
        (List.nodup_append.mpr ⟨h5, by simp, fun x hx y hy => by rw [List.mem_singleton.mp hy]; rintro rfl; exact q.1 hx⟩)
        (fun x hx hxv hxW w' hw' hs hg => by
          rcases List.mem_append.mp hx with hx | hx
          · exact List.mem_append_left _ (h6 x hx hxv (fun z => hxW (List.mem_append_left _ z)) w' hw' hs hg)
          · exact absurd (List.mem_append_right _ hx) hxW)
      refine ⟨F', W', by rw [List.foldl_cons, ev]; exact e, fun x hx => i1 x (List.mem_append_left _ hx), fun x hx => i2 x (List.mem_append_left _ hx), i3, i4, i5, i6, i7, fun x hx hg => ?_, by simp at i9; omega⟩
      rcases List.mem_cons.mp hx with rfl | hx
      · exact i1 _ (by simp)
      · exact i8 x hx hg
    · have ev : vis a (F, W) w = (F, W) := if_neg q
      obtain ⟨F', W', e, i1, i2, i3, i4, i5, i6, i7, i8, i9⟩ := vis_fold o (a := a) (u := u) (v := v) ws F W (fun x hx => hw x (List.mem_cons_of_mem _ hx)) hv h1 h2 h3 h4 h5 h6
      refine ⟨F', W', by rw [List.foldl_cons, ev]; exact e, i1, i2, i3, i4, i5, i6, i7, fun x hx hg => ?_, i9⟩
      rcases List.mem_cons.mp hx with rfl | hx
      · by_cases r : x.t ∈ F
        · exact i1 _ r
        · exact absurd ⟨r, hg⟩ q
      · exact i8 x hx hg
/-- a turn: the last that waits is taken, its ways are seen -/
theorem Sea.turn {f : Flow} (o : f.ok) {a : Option (List Nat)} {u v : List Nat} {F W : List (List Nat)} (s : Sea f a u F (W ++ [v])) :
    ∃ F' W', (outs f v).foldl (vis a) (F, W) = (F', W') ∧ Sea f a u F' W' ∧ F'.length + W.length = F.length + W'.length ∧ F.length ≤ F'.length := by
  have hv : v ∈ F := s.wf v (by simp)
  obtain ⟨F', W', e, i1, i2, i3, i4, i5, i6, i7, i8, i9⟩ := vis_fold o (a := a) (u := u) (v := v) (outs f v) F W
    (fun w hw => by
      have := List.mem_filter.mp hw
      exact ⟨this.1, by simpa using this.2⟩) hv s.reach s.st (fun x hx => s.wf x (by simp [hx])) s.u s.nd
    (fun x hx hxv hxW w hw hs hg => s.done x hx (by simp [hxW, hxv]) w hw hs hg)
  refine ⟨F', W', e, ⟨i3, i4, i5, i1 _ s.u, i6, fun x hx hxW w hw hs hg => ?_⟩, i9, nodup_le s.nd i1⟩
  by_cases q : x = v
  · subst q
    exact i8 w (List.mem_filter.mpr ⟨hw, by simpa using hs⟩) hg
  · exact i7 x hx q hxW w hw hs hg
end K04

namespace K04
open PySem L2 Ev
def avD : Option (List Nat) → Ev.D
  | none => .non
  | some x => .str x
theorem ne_av {x : List Nat} (a : Option (List Nat)) (h : Hd) : dEq true (.str x) (avD a) h = .ok (.bl (decide (some x ≠ a))) h := by
  cases a with
  | none => simp [avD, dEq, cmpOk, D.plain, near, D.dep, D.see, D.eqv]
  | some y => simp [avD, ne_w]
theorem eq_av {x : List Nat} (a : Option (List Nat)) (h : Hd) : dEq false (.str x) (avD a) h = .ok (.bl (decide (some x = a))) h := by
  cases a with
  | none => simp [avD, dEq, cmpOk, D.plain, near, D.dep, D.see, D.eqv]
  | some y => simp [avD, eq_w]
theorem get1 (b : Hd) (x y : O) : (b ++ [x, y])[b.length]? = some x := by simp
theorem get2 (b : Hd) (x y : O) : (b ++ [x, y])[b.length + 1]? = some y := by simp
theorem set1 (b : Hd) (x y z : O) : (b ++ [x, y]).set b.length z = b ++ [z, y] := by
  rw [List.set_append_right _ _ (Nat.le_refl _)]; simp
theorem set2 (b : Hd) (x y z : O) : (b ++ [x, y]).set (b.length + 1) z = b ++ [x, z] := by
  rw [List.set_append_right _ _ (by omega)]; simp
abbrev rcIn : MS := (sIf (tAnd (tCmp (mOp (dIn true) (mOp dIx (mVar 6) (mC (.int 2))) (mVar 3))) (tCmp (mOp (dEq true) (mOp dIx (mVar 6) (mC (.int 2))) (mVar 2))))
  (sSeq (sPut (mVar 3) (mOp dIx (mVar 6) (mC (.int 2))) (mC (.bl true)))
  (sExpr (mMt kAppend (mVar 4) (aCons (mOp dIx (mVar 6) (mC (.int 2))) aNil))))
  sNil)
theorem rc_in {c : Calls} {b : Hd} {x0 x1 x5 : Option Ev.D} {a : Option (List Nat)} {w : Way} {F W : List (List Nat)} {es : List (Ev.D × Ev.D)} (k : Keys es F) (hF : F.length ≤ 1000) (hW : W.length ≤ 1000) :
    ∃ es', rcIn c [x0, x1, some (avD a), some (.ref b.length), some (.ref (b.length + 1)), x5, some w.D] (b ++ [.dict es, .lst (W.map D.str)]) = .nx [x0, x1, some (avD a), some (.ref b.length), some (.ref (b.length + 1)), x5, some w.D] (b ++ [.dict es', .lst ((vis a (F, W) w).2.map D.str)]) ∧ Keys es' (vis a (F, W) w).1 := by
  have e1 : tCmp (mOp (dIn true) (mOp dIx (mVar 6) (mC (.int 2))) (mVar 3)) c [x0, x1, some (avD a), some (.ref b.length), some (.ref (b.length + 1)), x5, some w.D] (b ++ [.dict es, .lst (W.map D.str)]) = .ok (decide (w.t ∉ F)) (b ++ [.dict es, .lst (W.map D.str)]) := by
    have := in_dict (n := true) (x := w.t) (get1 b (.dict es) (.lst (W.map D.str)))
    rw [k.key] at this
    simp only [tCmp_ev, mOp_ev, mVar_ev, List.getElem?_cons_succ, List.getElem?_cons_zero, bind_ok, mC_ev, w2, this, dBl_ev]
    by_cases q : w.t ∈ F <;> simp [q]
  have e2 : tCmp (mOp (dEq true) (mOp dIx (mVar 6) (mC (.int 2))) (mVar 2)) c [x0, x1, some (avD a), some (.ref b.length), some (.ref (b.length + 1)), x5, some w.D] (b ++ [.dict es, .lst (W.map D.str)]) = .ok (decide (some w.t ≠ a)) (b ++ [.dict es, .lst (W.map D.str)]) := by
    simp only [tCmp_ev, mOp_ev, mVar_ev, List.getElem?_cons_succ, List.getElem?_cons_zero, bind_ok, mC_ev, w2, ne_av, dBl_ev]
  by_cases q : w.t ∉ F ∧ goes a w
  · have ev : vis a (F, W) w = (F ++ [w.t], W ++ [w.t]) := if_pos q
    rw [ev]
    refine ⟨putD es (.str w.t) (.bl true), ?_, k.put _ _⟩
    have kl := k.len
    have p := put_at (c := c) (t := [x0, x1, some (avD a), some (.ref b.length), some (.ref (b.length + 1)), x5, some w.D]) (i := 3) (mk := mOp dIx (mVar 6) (mC (.int 2))) (mv := mC (.bl true)) (k := w.t) (v := .bl true) rfl (get1 b (.dict es) (.lst (W.map D.str))) (by simp [w2]) rfl (by omega)
    rw [set1] at p
    have ap := append_at (c := c) (t := [x0, x1, some (avD a), some (.ref b.length), some (.ref (b.length + 1)), x5, some w.D]) (h := b ++ [.dict (putD es (.str w.t) (.bl true)), .lst (W.map D.str)]) (i := 4) (L := b.length + 1) (m := mOp dIx (mVar 6) (mC (.int 2))) (d := .str w.t) (xs := W.map D.str) (ys := W.map D.str) rfl (get2 b (.dict (putD es (.str w.t) (.bl true))) (.lst (W.map D.str))) (by simp [w2]) (get2 b (.dict (putD es (.str w.t) (.bl true))) (.lst (W.map D.str))) (by rw [List.length_map]; omega)
    rw [set2] at ap
    unfold rcIn
    rw [sIf_ev, tAnd_ev, e1]
    simp only [q.1, not_false_eq_true, decide_true, bind_ok, if_true, e2]
    rw [show decide (some w.t ≠ a) = true from decide_eq_true q.2, toS_ok, if_pos rfl, sSeq_ev, p, seq_nx, ap, List.map_append, List.map_singleton]
  · have ev : vis a (F, W) w = (F, W) := if_neg q
    rw [ev]
    refine ⟨es, ?_, k⟩
    unfold rcIn
    rw [sIf_ev, tAnd_ev, e1]
    by_cases r : w.t ∈ F
    · simp [r]
    · have : ¬ (some w.t ≠ a) := fun z => q ⟨r, z⟩
      simp only [r, not_false_eq_true, decide_true, bind_ok, if_true, e2]
      rw [decide_eq_false this]
      rfl
theorem vis_len {a : Option (List Nat)} (p : List (List Nat) × List (List Nat)) (w : Way) : (vis a p w).1.length ≤ p.1.length + 1 ∧ (vis a p w).2.length ≤ p.2.length + 1 := by
  unfold vis
  split <;> simp
theorem rc_for {n : Nat} (hn : 2 ≤ n) {f : Flow} (o : f.ok) {b : Hd} {x1 x6 : Option Ev.D} {v : List Nat} (hv : v ∈ f.st) {a : Option (List Nat)} {F W F' W' : List (List Nat)} {es : List (Ev.D × Ev.D)} (k : Keys es F) (hF : F.length ≤ 100) (hW : W.length ≤ 100) (e : (outs f v).foldl (vis a) (F, W) = (F', W')) :
    ∃ es' y6, sFor (iVal (mCall 3 (aCons (mVar 0) (aCons (mVar 5) aNil)))) (.nm 6) rcIn (callN T n) [some f.D, x1, some (avD a), some (.ref b.length), some (.ref (b.length + 1)), some (.str v), x6] (b ++ [.dict es, .lst (W.map D.str)]) = .nx [some f.D, x1, some (avD a), some (.ref b.length), some (.ref (b.length + 1)), some (.str v), y6] (b ++ [.dict es', .lst (W'.map D.str)]) ∧ Keys es' F' := by
  have ew := c_ways (n := n) hn o hv (b ++ [.dict es, .lst (W.map D.str)])
  generalize callN T n = c at ew
  have ei : iVal (mCall 3 (aCons (mVar 0) (aCons (mVar 5) aNil))) c [some f.D, x1, some (avD a), some (.ref b.length), some (.ref (b.length + 1)), some (.str v), x6] (b ++ [.dict es, .lst (W.map D.str)]) = .ok ⟨(outs f v).map Way.D, none⟩ (b ++ [.dict es, .lst (W.map D.str)]) := by
    simp [ew, dIter]
  have ol : (outs f v).length ≤ 16 := Nat.le_trans (List.length_filter_le _ _) o.w16
  refine sFor_gen (b := rcIn) (g := .nm 6) (I := fun ds t h' => ∃ (todo : List Way) (G V : List (List Nat)) (es : List (Ev.D × Ev.D)) (x6 : Option Ev.D), ds = todo.map Way.D ∧ t = [some f.D, x1, some (avD a), some (.ref b.length), some (.ref (b.length + 1)), some (.str v), x6] ∧ h' = b ++ [.dict es, .lst (V.map D.str)] ∧ Keys es G ∧ todo.foldl (vis a) (G, V) = (F', W') ∧ G.length + todo.length ≤ 900 ∧ V.length + todo.length ≤ 900)
    (O := fun y => ∃ (es' : List (Ev.D × Ev.D)) (y6 : Option Ev.D), y = .nx [some f.D, x1, some (avD a), some (.ref b.length), some (.ref (b.length + 1)), some (.str v), y6] (b ++ [.dict es', .lst (W'.map D.str)]) ∧ Keys es' F') ei ?_ ?_ ?_
  · rintro d ds t h' ⟨todo, G, V, es, x6, hd, rfl, rfl, kk, ef, z1, z2⟩
    cases todo with
    | nil => simp at hd
    | cons w todo =>
      rw [List.map_cons] at hd
      obtain ⟨rfl, rfl⟩ := List.cons.inj hd
      rw [List.length_cons] at z1 z2
      obtain ⟨es', e1, k1⟩ := rc_in (c := c) (b := b) (x0 := some f.D) (x1 := x1) (x5 := some (.str v)) (a := a) (w := w) (W := V) kk (by omega) (by omega)
      refine ⟨trivial, [some f.D, x1, some (avD a), some (.ref b.length), some (.ref (b.length + 1)), some (.str v), some w.D], rfl, ?_⟩
      rw [e1]
      have vl := vis_len (a := a) (G, V) w
      exact .nx ⟨todo, (vis a (G, V) w).1, (vis a (G, V) w).2, es', some w.D, rfl, rfl, rfl, k1, by rw [← ef]; rfl, by have := vl.1; simp only at this; omega, by have := vl.2; simp only at this; omega⟩
  · rintro t h' ⟨todo, G, V, es, x6, hd, rfl, rfl, kk, ef, z1, z2⟩
    cases todo with
    | cons w todo => simp at hd
    | nil =>
      have ef : (G, V) = (F', W') := ef
      obtain ⟨rfl, rfl⟩ := Prod.mk.inj ef
      exact ⟨trivial, es, x6, rfl, kk⟩
  · exact ⟨outs f v, F, W, es, x6, rfl, rfl, rfl, k, e, by omega, by omega⟩
end K04

namespace K04
open PySem L2 Ev
noncomputable abbrev rcBody : MS := (sSeq (sSet 5 (mMt kPop (mVar 4) aNil))
  (sSeq (sIf (tCmp (mOp (dIn false) (mVar 5) (mOp dIx (mVar 0) (mC (.int 1)))))
  (sRet (mC (.bl true)))
  sNil)
  (sFor (iVal (mCall 3 (aCons (mVar 0) (aCons (mVar 5) aNil)))) (.nm 6) rcIn)))
theorem fold_new (a : Option (List Nat)) : ∀ (ws : List Way) (F W : List (List Nat)), (∀ x ∈ W, x ∈ (ws.foldl (vis a) (F, W)).2) ∧ ∀ x ∈ (ws.foldl (vis a) (F, W)).1, x ∈ F ∨ x ∈ (ws.foldl (vis a) (F, W)).2
  | [], F, W => ⟨fun x h => h, fun x h => .inl h⟩
  | w :: ws, F, W => by
    rw [List.foldl_cons]
    by_cases q : w.t ∉ F ∧ goes a w
    · rw [show vis a (F, W) w = (F ++ [w.t], W ++ [w.t]) from if_pos q]
      obtain ⟨i1, i2⟩ := fold_new a ws (F ++ [w.t]) (W ++ [w.t])
      refine ⟨fun x hx => i1 x (List.mem_append_left _ hx), fun x hx => ?_⟩
      rcases i2 x hx with h | h
      · rcases List.mem_append.mp h with h | h
        · exact .inl h
        · exact .inr (i1 x (List.mem_append_right _ h))
      · exact .inr h
    · rw [show vis a (F, W) w = (F, W) from if_neg q]
      exact fold_new a ws F W
theorem Sea.len {f : Flow} (o : f.ok) {a : Option (List Nat)} {u : List Nat} {F W : List (List Nat)} (s : Sea f a u F W) : F.length ≤ 8 := Nat.le_trans (nodup_le s.nd s.st) o.s8
theorem c_saves {n : Nat} (hn : 3 ≤ n) {f : Flow} (o : f.ok) {u : List Nat} (hu : u ∈ f.st) (a : Option (List Nat)) (h : Hd) :
    ∃ b : Bool, callN T n 6 [f.D, .str u, avD a] h = .ok (.bl b) h ∧ (b = true ↔ some u ≠ a ∧ ∃ x ∈ f.cl, Rch f a u x) := by
  obtain ⟨m, rfl⟩ := lvl hn
  rw [call_at (F := ⟨3, 7, b_reaches_closed⟩) rfl]
  have rf := fun (b : Hd) (x1 x6 : Option Ev.D) (v : List Nat) (hv : v ∈ f.st) (F W F' W' : List (List Nat)) (es : List (Ev.D × Ev.D)) (k : Keys es F) (hF : F.length ≤ 100) (hW : W.length ≤ 100) (e : (outs f v).foldl (vis a) (F, W) = (F', W')) => rc_for (n := m + 2) (by omega) o (b := b) (x1 := x1) (x6 := x6) hv k hF hW e
  generalize callN T (m + 2) = c at rf
  have ea : ([f.D, .str u, avD a].map some ++ List.replicate (7 - 3) (none : Option Ev.D)) = [some f.D, some (.str u), some (avD a), none, none, none, none] := rfl
  rw [runFn_at (np := 3) (nn := 7) rfl ea]
  have hb : b_reaches_closed = sSeq (sIf (tCmp (mOp (dEq false) (mVar 1) (mVar 2))) (sRet (mC (.bl false))) sNil) (sSeq (sSet 3 (mDict1 (mVar 1) (mC (.bl true)))) (sSeq (sSet 4 (mLst true (aCons (mVar 1) aNil))) (sSeq (sWhile (tVal (mVar 4)) rcBody) (sRet (mC (.bl false)))))) := rfl
  rw [hb, sSeq_ev]
  have e1 : tCmp (mOp (dEq false) (mVar 1) (mVar 2)) c [some f.D, some (.str u), some (avD a), none, none, none, none] h = .ok (decide (some u = a)) h := by
    simp only [tCmp_ev, mOp_ev, mVar_ev, List.getElem?_cons_succ, List.getElem?_cons_zero, bind_ok, eq_av, dBl_ev]
  by_cases hua : some u = a
  · refine ⟨false, ?_, by simp [hua]⟩
    rw [sIf_ev, e1, decide_eq_true hua, toS_ok, if_pos rfl]
    exact fin1_same (hd := lo_bl _ _)
  · have s0 : sIf (tCmp (mOp (dEq false) (mVar 1) (mVar 2))) (sRet (mC (.bl false))) sNil c [some f.D, some (.str u), some (avD a), none, none, none, none] h = .nx [some f.D, some (.str u), some (avD a), none, none, none, none] h := by
      rw [sIf_ev, e1, decide_eq_false hua, toS_ok, if_neg (by decide)]; rfl
    have s1 : sSet 3 (mDict1 (mVar 1) (mC (.bl true))) c [some f.D, some (.str u), some (avD a), none, none, none, none] h = .nx [some f.D, some (.str u), some (avD a), some (.ref h.length), none, none, none] (h ++ [.dict [(.str u, .bl true)]]) := by
      simp [dOne, keyOk]
    have s2 : sSet 4 (mLst true (aCons (mVar 1) aNil)) c [some f.D, some (.str u), some (avD a), some (.ref h.length), none, none, none] (h ++ [.dict [(.str u, .bl true)]]) = .nx [some f.D, some (.str u), some (avD a), some (.ref h.length), some (.ref (h.length + 1)), none, none] (h ++ [.dict [(.str u, .bl true)], .lst [.str u]]) := by
      simp
    have w := sWhile_gen (k := tVal (mVar 4)) (b := rcBody) (c := c) (t := [some f.D, some (.str u), some (avD a), some (.ref h.length), some (.ref (h.length + 1)), none, none]) (h := h ++ [.dict [(.str u, .bl true)], .lst [.str u]])
      (I := fun n t h' => ∃ (F W : List (List Nat)) (es : List (Ev.D × Ev.D)) (x5 x6 : Option Ev.D), t = [some f.D, some (.str u), some (avD a), some (.ref h.length), some (.ref (h.length + 1)), x5, x6] ∧ h' = h ++ [.dict es, .lst (W.map D.str)] ∧ Keys es F ∧ Sea f a u F W ∧ (∀ x ∈ F, x ∉ W → x ∉ f.cl) ∧ n = 2 * (8 - F.length) + W.length ∧ W.length ≤ F.length)
      (O := fun y => (∃ t' l, y = .nx t' (h ++ l) ∧ ∀ x ∈ f.cl, ¬ Rch f a u x) ∨ (∃ l, y = .rt (.bl true) (h ++ l) ∧ ∃ x ∈ f.cl, Rch f a u x))
      (fun n t g ⟨F, W, es, x5, x6, ht, hh, kk, s, hcl, hm, hwf⟩ => by
        subst ht hh hm
        rcases List.eq_nil_or_concat W with rfl | ⟨W, v, rfl⟩
        · refine .inl ⟨by simp [dTrue, D.see], .inl ⟨_, _, rfl, fun x hx r => ?_⟩⟩
          exact hcl x ((s.fin x).mpr r) (by simp) hx
        · rw [List.concat_eq_append] at *
          have hv : v ∈ F := s.wf v (by simp)
          have F8 := s.len o
          refine .inr ⟨by simp [dTrue, D.see], ?_⟩
          have p := pop_at (c := c) (t := [some f.D, some (.str u), some (avD a), some (.ref h.length), some (.ref (h.length + 1)), x5, x6]) (i := 4) (L := h.length + 1) (ys := W.map D.str) (y := .str v) rfl (get2 h (.dict es) _)
          rw [set2] at p
          have t1 : sSet 5 (mMt kPop (mVar 4) aNil) c [some f.D, some (.str u), some (avD a), some (.ref h.length), some (.ref (h.length + 1)), x5, x6] (h ++ [.dict es, .lst ((W ++ [v]).map D.str)]) = .nx [some f.D, some (.str u), some (avD a), some (.ref h.length), some (.ref (h.length + 1)), some (.str v), x6] (h ++ [.dict es, .lst (W.map D.str)]) := by
            rw [sSet_ev, List.map_append, List.map_singleton, p, toS_ok]; rfl
          have t2 : tCmp (mOp (dIn false) (mVar 5) (mOp dIx (mVar 0) (mC (.int 1)))) c [some f.D, some (.str u), some (avD a), some (.ref h.length), some (.ref (h.length + 1)), some (.str v), x6] (h ++ [.dict es, .lst (W.map D.str)]) = .ok (decide (v ∈ f.cl)) (h ++ [.dict es, .lst (W.map D.str)]) := by
            simp only [tCmp_ev, mOp_ev, mVar_ev, List.getElem?_cons_succ, List.getElem?_cons_zero, bind_ok, mC_ev, f1, in_tup, Bool.false_bne, dBl_ev]
          unfold rcBody
          rw [sSeq_ev, t1, seq_nx, sSeq_ev, sIf_ev, t2, toS_ok]
          by_cases hvc : v ∈ f.cl
          · rw [decide_eq_true hvc, if_pos rfl]
            exact .rt (.inr ⟨_, rfl, v, hvc, s.reach v hv⟩)
          · rw [decide_eq_false hvc, if_neg (by decide)]
            obtain ⟨F', W', e, s', l1, l2⟩ := s.turn o
            have F8' := s'.len o
            obtain ⟨es', y6, ef, kk'⟩ := rf h (some (.str u)) x6 v (s.st v hv) F W F' W' es kk (by omega) (by simp at hwf; omega) e
            show Turn _ _ ((sNil c _ _).seq _)
            rw [sNil_ev, seq_nx, ef]
            simp at hwf
            refine .nx ⟨_, ?_, F', W', es', some (.str v), y6, rfl, rfl, kk', s', fun x hx hxW => ?_, rfl, by omega⟩
            · simp; omega
            · intro hxc
              by_cases hxF : x ∈ F
              · by_cases hxv : x = v
                · exact hvc (hxv ▸ hxc)
                · exact hcl x hxF (by
                    have hxW0 : x ∉ W := fun z => hxW (by have := (fold_new a (outs f v) F W).1 x z; rwa [e] at this)
                    simp [hxW0, hxv]) hxc
              · have := (fold_new a (outs f v) F W).2 x (by rw [e]; exact hx)
                rw [e] at this
                exact this.elim hxF hxW) 15 (by omega) ⟨[u], [u], [(.str u, .bl true)], none, none, rfl, rfl, Keys.one u _, Sea.start hu, fun x hx hn => absurd hx hn, rfl, by simp⟩
    rcases w with ⟨t', l, e, hno⟩ | ⟨l, e, hyes⟩
    · refine ⟨false, ?_, ?_⟩
      · rw [s0, seq_nx, sSeq_ev, s1, seq_nx, sSeq_ev, s2, seq_nx, sSeq_ev, e, seq_nx]
        exact fin1_app (lo_bl _ _)
      · simp only [Bool.false_eq_true, false_iff]
        rintro ⟨_, x, hx, r⟩
        exact hno x hx r
    · refine ⟨true, ?_, ?_⟩
      · rw [s0, seq_nx, sSeq_ev, s1, seq_nx, sSeq_ev, s2, seq_nx, sSeq_ev, e]
        exact fin1_app (lo_bl _ _)
      · simp only [true_iff]
        exact ⟨hua, hyes⟩
end K04

namespace K04
open PySem L2 Ev
theorem fold_app (a : Option (List Nat)) : ∀ (ws : List Way) (F W : List (List Nat)), ∃ N, ws.foldl (vis a) (F, W) = (F ++ N, W ++ N)
  | [], F, W => ⟨[], by simp⟩
  | w :: ws, F, W => by
    rw [List.foldl_cons]
    by_cases q : w.t ∉ F ∧ goes a w
    · rw [show vis a (F, W) w = (F ++ [w.t], W ++ [w.t]) from if_pos q]
      obtain ⟨N, e⟩ := fold_app a ws (F ++ [w.t]) (W ++ [w.t])
      exact ⟨w.t :: N, by rw [e]; simp⟩
    · rw [show vis a (F, W) w = (F, W) from if_neg q]
      exact fold_app a ws F W
/-- the queue's turn -/
theorem Sea.turnQ {f : Flow} (o : f.ok) {a : Option (List Nat)} {u v : List Nat} {F W0 W : List (List Nat)} (s : Sea f a u F W0) (hW : ∀ x, x ∈ W0 ↔ x = v ∨ x ∈ W) :
    ∃ N, (outs f v).foldl (vis a) (F, W) = (F ++ N, W ++ N) ∧ Sea f a u (F ++ N) (W ++ N) := by
  obtain ⟨N, eN⟩ := fold_app a (outs f v) F W
  refine ⟨N, eN, ?_⟩
  have hv : v ∈ F := s.wf v ((hW v).mpr (.inl rfl))
  obtain ⟨F', W', e, i1, i2, i3, i4, i5, i6, i7, i8, i9⟩ := vis_fold o (a := a) (u := u) (v := v) (outs f v) F W
    (fun w hw => by
      have := List.mem_filter.mp hw
      exact ⟨this.1, by simpa using this.2⟩) hv s.reach s.st (fun x hx => s.wf x ((hW x).mpr (.inr hx))) s.u s.nd
    (fun x hx hxv hxW w hw hs hg => s.done x hx (fun z => ((hW x).mp z).elim hxv hxW) w hw hs hg)
  rw [eN] at e
  obtain ⟨rfl, rfl⟩ := Prod.mk.inj e
  refine ⟨i3, i4, i5, i1 _ s.u, i6, fun x hx hxW w hw hs hg => ?_⟩
  by_cases q : x = v
  · subst q
    exact i8 w (List.mem_filter.mpr ⟨hw, by simpa using hs⟩) hg
  · exact i7 x hx q hxW w hw hs hg
abbrev lrIn : MS := (sIf (tAnd (tCmp (mOp (dEq false) (mOp dIx (mVar 5) (mC (.int 1))) (mOp dIx (mVar 3) (mVar 4)))) (tAnd (tCmp (mOp (dIn true) (mOp dIx (mVar 5) (mC (.int 2))) (mVar 3))) (tCmp (mOp (dEq true) (mOp dIx (mVar 5) (mC (.int 2))) (mVar 2)))))
  (sExpr (mMt kAppend (mVar 3) (aCons (mOp dIx (mVar 5) (mC (.int 2))) aNil)))
  sNil)
theorem in_ref {n : Bool} {x : List Nat} {l : List (List Nat)} {h : Hd} {K : Nat} (e : h[K]? = some (.lst (l.map D.str))) : dIn n (.str x) (.ref K) h = .ok (.bl (n != decide (x ∈ l))) h := by
  have e1 : D.dict? h (.ref K) = none := by simp [D.dict?, e]
  have e2 : D.see h (.ref K) = .lst (l.map D.str) := by simp [D.see, e]
  have hc : cmpOk (.str x) (.lst (l.map D.str)) = true := by simp [cmpOk, near, D.plain, plain_strs, D.dep]
  unfold dIn
  simp only [e1]
  unfold dInS
  simp only [e2]
  rw [if_pos hc, has_strs]
theorem ix_ref {xs : List Ev.D} {k : Nat} {x : Ev.D} {K : Nat} {h : Hd} (e : h[K]? = some (.lst xs)) (ek : xs[k]? = some x) : dIx (.ref K) (.int (k : Int)) h = .ok x h := by
  have hk := (List.getElem?_eq_some_iff.mp ek).1
  have ek' : xs[k] = x := by rw [List.getElem?_eq_getElem hk] at ek; injection ek
  simp [dIx, dIxS, D.dict?, D.see, e, ixI, hk, ek']
/-- one way, seen by the law -/
def visF (y v : List Nat) (F : List (List Nat)) (w : Way) : List (List Nat) := if w.s = v ∧ w.t ∉ F ∧ w.t ≠ y then F ++ [w.t] else F
theorem visF_fold (y v : List Nat) : ∀ (ws : List Way) (F W : List (List Nat)), ws.foldl (visF y v) F = ((ws.filter fun w => decide (w.s = v)).foldl (vis (some y)) (F, W)).1
  | [], F, W => rfl
  | w :: ws, F, W => by
    rw [List.foldl_cons]
    by_cases q : w.s = v
    · rw [List.filter_cons_of_pos (by simpa using q), List.foldl_cons]
      by_cases r : w.t ∉ F ∧ w.t ≠ y
      · have g : goes (some y) w := fun z => r.2 (by injection z)
        rw [show visF y v F w = F ++ [w.t] from if_pos ⟨q, r.1, r.2⟩, show vis (some y) (F, W) w = (F ++ [w.t], W ++ [w.t]) from if_pos ⟨r.1, g⟩]
        exact visF_fold y v ws _ _
      · rw [show visF y v F w = F from if_neg fun z => r z.2, show vis (some y) (F, W) w = (F, W) from if_neg fun z => r ⟨z.1, fun e => z.2 (by rw [e])⟩]
        exact visF_fold y v ws _ _
    · rw [List.filter_cons_of_neg (by simpa using q), show visF y v F w = F from if_neg fun z => q z.1]
      exact visF_fold y v ws F W
theorem lr_in {c : Calls} {b : Hd} {x0 x1 : Option Ev.D} {y v : List Nat} {w : Way} {F : List (List Nat)} {k : Nat} (hk : F[k]? = some v) (hF : F.length ≤ 1000) :
    lrIn c [x0, x1, some (.str y), some (.ref b.length), some (.int (k : Int)), some w.D] (b ++ [.lst (F.map D.str)]) = .nx [x0, x1, some (.str y), some (.ref b.length), some (.int (k : Int)), some w.D] (b ++ [.lst ((visF y v F w).map D.str)]) := by
  have i1 := ix_ref (h := b ++ [.lst (F.map D.str)]) (K := b.length) (xs := F.map D.str) (k := k) (x := .str v) (get_last b _) (by rw [List.getElem?_map, hk]; rfl)
  have n1 := in_ref (n := true) (x := w.t) (h := b ++ [.lst (F.map D.str)]) (K := b.length) (l := F) (get_last b _)
  have e1 : tCmp (mOp (dEq false) (mOp dIx (mVar 5) (mC (.int 1))) (mOp dIx (mVar 3) (mVar 4))) c [x0, x1, some (.str y), some (.ref b.length), some (.int (k : Int)), some w.D] (b ++ [.lst (F.map D.str)]) = .ok (decide (w.s = v)) (b ++ [.lst (F.map D.str)]) := by
    simp only [tCmp_ev, mOp_ev, mVar_ev, List.getElem?_cons_succ, List.getElem?_cons_zero, bind_ok, mC_ev, w1, i1, eq_w, dBl_ev]
  have e2 : tCmp (mOp (dIn true) (mOp dIx (mVar 5) (mC (.int 2))) (mVar 3)) c [x0, x1, some (.str y), some (.ref b.length), some (.int (k : Int)), some w.D] (b ++ [.lst (F.map D.str)]) = .ok (true != decide (w.t ∈ F)) (b ++ [.lst (F.map D.str)]) := by
    simp only [tCmp_ev, mOp_ev, mVar_ev, List.getElem?_cons_succ, List.getElem?_cons_zero, bind_ok, mC_ev, w2, n1, dBl_ev]
  have e3 : tCmp (mOp (dEq true) (mOp dIx (mVar 5) (mC (.int 2))) (mVar 2)) c [x0, x1, some (.str y), some (.ref b.length), some (.int (k : Int)), some w.D] (b ++ [.lst (F.map D.str)]) = .ok (decide (w.t ≠ y)) (b ++ [.lst (F.map D.str)]) := by
    simp only [tCmp_ev, mOp_ev, mVar_ev, List.getElem?_cons_succ, List.getElem?_cons_zero, bind_ok, mC_ev, w2, ne_w, dBl_ev]
  unfold lrIn
  rw [sIf_ev, tAnd_ev, e1]
  by_cases q1 : w.s = v
  · rw [decide_eq_true q1, bind_ok, if_pos rfl, tAnd_ev, e2]
    by_cases q2 : w.t ∈ F
    · rw [decide_eq_true q2, bind_ok, show (true != true) = false from rfl, if_neg (by decide), toS_ok, if_neg (by decide), show visF y v F w = F from if_neg fun z => z.2.1 q2]
      rfl
    · rw [decide_eq_false q2, bind_ok, show (true != false) = true from rfl, if_pos rfl, e3]
      by_cases q3 : w.t = y
      · rw [decide_eq_false (fun z => z q3), toS_ok, if_neg (by decide), show visF y v F w = F from if_neg fun z => z.2.2 q3]
        rfl
      · have ap := append_at (c := c) (t := [x0, x1, some (.str y), some (.ref b.length), some (.int (k : Int)), some w.D]) (h := b ++ [.lst (F.map D.str)]) (i := 3) (L := b.length) (m := mOp dIx (mVar 5) (mC (.int 2))) (d := .str w.t) (xs := F.map D.str) (ys := F.map D.str) rfl (get_last b _) (by simp [w2]) (get_last b _) (by rw [List.length_map]; omega)
        rw [set_last] at ap
        rw [decide_eq_true q3, toS_ok, if_pos rfl, ap, show visF y v F w = F ++ [w.t] from if_pos ⟨q1, q2, q3⟩, List.map_append, List.map_singleton]
  · rw [decide_eq_false q1, bind_ok, if_neg (by decide), toS_ok, if_neg (by decide), show visF y v F w = F from if_neg fun z => q1 z.1]
    rfl
theorem visF_len (y v : List Nat) : ∀ (ws : List Way) (F : List (List Nat)), (ws.foldl (visF y v) F).length ≤ F.length + ws.length
  | [], F => by simp
  | w :: ws, F => by
    rw [List.foldl_cons]
    have := visF_len y v ws (visF y v F w)
    have h1 : (visF y v F w).length ≤ F.length + 1 := by unfold visF; split <;> simp
    simp; omega
theorem visF_get (y v : List Nat) {k : Nat} {F : List (List Nat)} (hk : F[k]? = some v) (w : Way) : (visF y v F w)[k]? = some v := by
  unfold visF
  split
  · rw [List.getElem?_append_left (List.getElem?_eq_some_iff.mp hk).1]; exact hk
  · exact hk
theorem lr_for {f : Flow} (o : f.ok) {c : Calls} {b : Hd} {x1 x5 : Option Ev.D} {y v : List Nat} {F : List (List Nat)} {k : Nat} (hk : F[k]? = some v) (hF : F.length ≤ 100) :
    ∃ y5, sFor (iVal (mOp dIx (mVar 0) (mC (.int 2)))) (.nm 5) lrIn c [some f.D, x1, some (.str y), some (.ref b.length), some (.int (k : Int)), x5] (b ++ [.lst (F.map D.str)]) = .nx [some f.D, x1, some (.str y), some (.ref b.length), some (.int (k : Int)), y5] (b ++ [.lst ((f.ws.foldl (visF y v) F).map D.str)]) := by
  have ei : iVal (mOp dIx (mVar 0) (mC (.int 2))) c [some f.D, x1, some (.str y), some (.ref b.length), some (.int (k : Int)), x5] (b ++ [.lst (F.map D.str)]) = .ok ⟨f.ws.map Way.D, none⟩ (b ++ [.lst (F.map D.str)]) := by
    simp [f2, dIter]
  have ol := o.w16
  refine sFor_gen (b := lrIn) (g := .nm 5) (I := fun ds t h' => ∃ (todo : List Way) (G : List (List Nat)) (x5 : Option Ev.D), ds = todo.map Way.D ∧ t = [some f.D, x1, some (.str y), some (.ref b.length), some (.int (k : Int)), x5] ∧ h' = b ++ [.lst (G.map D.str)] ∧ G[k]? = some v ∧ todo.foldl (visF y v) G = f.ws.foldl (visF y v) F ∧ G.length + todo.length ≤ 900)
    (O := fun z => ∃ y5, z = .nx [some f.D, x1, some (.str y), some (.ref b.length), some (.int (k : Int)), y5] (b ++ [.lst ((f.ws.foldl (visF y v) F).map D.str)])) ei ?_ ?_ ?_
  · rintro d ds t h' ⟨todo, G, x5, hd, rfl, rfl, hg, ef, z1⟩
    cases todo with
    | nil => simp at hd
    | cons w todo =>
      rw [List.map_cons] at hd
      obtain ⟨rfl, rfl⟩ := List.cons.inj hd
      rw [List.length_cons] at z1
      refine ⟨trivial, [some f.D, x1, some (.str y), some (.ref b.length), some (.int (k : Int)), some w.D], rfl, ?_⟩
      rw [lr_in hg (by omega)]
      have h1 : (visF y v G w).length ≤ G.length + 1 := by unfold visF; split <;> simp
      exact .nx ⟨todo, visF y v G w, some w.D, rfl, rfl, rfl, visF_get y v hg w, by rw [← ef]; rfl, by omega⟩
  · rintro t h' ⟨todo, G, x5, hd, rfl, rfl, hg, ef, z1⟩
    cases todo with
    | cons w todo => simp at hd
    | nil =>
      have ef : G = f.ws.foldl (visF y v) F := ef
      exact ⟨trivial, x5, by rw [← ef]⟩
  · exact ⟨f.ws, F, x5, rfl, rfl, rfl, hk, rfl, by omega⟩
noncomputable abbrev lrBody : MS := (sIf (tCmp (mOp dLt (mVar 4) (mB gLen (aCons (mVar 3) aNil)))) (sFor (iVal (mOp dIx (mVar 0) (mC (.int 2)))) (.nm 5) lrIn) sNil)
theorem c_reach {n : Nat} (hn : 1 ≤ n) {f : Flow} (o : f.ok) {u : List Nat} (hu : u ∈ f.st) (y : List Nat) (h : Hd) :
    ∃ F : List (List Nat), callN T n 19 [f.D, .str u, .str y] h = .ok (.ref h.length) (h ++ [.lst (F.map D.str)]) ∧ (∀ x, x ∈ F ↔ Rch f (some y) u x) ∧ F.length ≤ 8 := by
  obtain ⟨m, rfl⟩ := lvl hn
  rw [call_at (F := ⟨3, 6, b__law_reach⟩) rfl]
  generalize callN T m = c
  have ea : ([f.D, .str u, .str y].map some ++ List.replicate (6 - 3) (none : Option Ev.D)) = [some f.D, some (.str u), some (.str y), none, none, none] := rfl
  rw [runFn_at (np := 3) (nn := 6) rfl ea]
  have hb : b__law_reach = sSeq (sSet 3 (mLst true (aCons (mVar 1) aNil))) (sSeq (sFor (iRng1 (mC (.int 8))) (.nm 4) lrBody) (sRet (mVar 3))) := rfl
  have s1 : sSet 3 (mLst true (aCons (mVar 1) aNil)) c [some f.D, some (.str u), some (.str y), none, none, none] h = .nx [some f.D, some (.str u), some (.str y), some (.ref h.length), none, none] (h ++ [.lst [.str u]]) := by simp
  have ei : iRng1 (mC (.int 8)) c [some f.D, some (.str u), some (.str y), some (.ref h.length), none, none] (h ++ [.lst [.str u]]) = .ok ⟨rngD 0 8, none⟩ (h ++ [.lst [.str u]]) := by
    rw [iRng1_ev, mC_ev, bind_ok, dRng1_ok _ (by omega) (by omega)]
    rfl
  obtain ⟨F, x4, x5, e, hF, l8⟩ := sFor_gen (b := lrBody) (g := .nm 4) (I := fun ds t h' => ∃ (s m : Nat) (F : List (List Nat)) (x4 x5 : Option Ev.D), ds = (List.range' s m).map (fun (k : Nat) => D.int (k : Int)) ∧ s + m = 8 ∧ t = [some f.D, some (.str u), some (.str y), some (.ref h.length), x4, x5] ∧ h' = h ++ [.lst (F.map D.str)] ∧ Sea f (some y) u F (F.drop s))
    (O := fun z => ∃ (F : List (List Nat)) (x4 x5 : Option Ev.D), z = .nx [some f.D, some (.str u), some (.str y), some (.ref h.length), x4, x5] (h ++ [.lst (F.map D.str)]) ∧ (∀ x, x ∈ F ↔ Rch f (some y) u x) ∧ F.length ≤ 8) ei
    (by
      rintro d ds t h' ⟨s, m, F, x4, x5, hd, hsm, rfl, rfl, se⟩
      cases m with
      | zero => simp at hd
      | succ m =>
        rw [List.range'_succ, List.map_cons] at hd
        obtain ⟨rfl, rfl⟩ := List.cons.inj hd
        have F8 := se.len o
        refine ⟨trivial, [some f.D, some (.str u), some (.str y), some (.ref h.length), some (.int (s : Int)), x5], rfl, ?_⟩
        have gl : gLen [.ref h.length] (h ++ [.lst (F.map D.str)]) = .ok (.int (F.length : Nat)) (h ++ [.lst (F.map D.str)]) := by
          simp [gLen, D.dict?, D.see]
        have tt : tCmp (mOp dLt (mVar 4) (mB gLen (aCons (mVar 3) aNil))) c [some f.D, some (.str u), some (.str y), some (.ref h.length), some (.int (s : Int)), x5] (h ++ [.lst (F.map D.str)]) = .ok (decide (s < F.length)) (h ++ [.lst (F.map D.str)]) := by
          simp [gl, dCmp]
        unfold lrBody
        rw [sIf_ev, tt, toS_ok]
        by_cases q : s < F.length
        · rw [decide_eq_true q, if_pos rfl]
          obtain ⟨v, hv⟩ : ∃ v, F[s]? = some v := ⟨_, List.getElem?_eq_getElem q⟩
          obtain ⟨y5, ef⟩ := lr_for (b := h) (c := c) (x1 := some (.str u)) (x5 := x5) (y := y) o hv (by omega)
          have ed : F.drop s = v :: F.drop (s + 1) := by
            rw [List.drop_eq_getElem_cons q]
            congr 1
            rw [List.getElem?_eq_getElem q] at hv
            injection hv
          obtain ⟨N, eN, se'⟩ := se.turnQ o (v := v) (W := F.drop (s + 1)) (fun x => by rw [ed, List.mem_cons])
          have eF : f.ws.foldl (visF y v) F = F ++ N := by
            rw [visF_fold y v f.ws F (F.drop (s + 1))]
            show ((outs f v).foldl (vis (some y)) (F, F.drop (s + 1))).1 = _
            rw [eN]
          rw [ef, eF]
          exact .nx ⟨s + 1, m, F ++ N, _, _, rfl, by omega, rfl, rfl, by rw [List.drop_append_of_le_length (by omega)]; exact se'⟩
        · rw [decide_eq_false q, if_neg (by decide)]
          exact .nx ⟨s + 1, m, F, _, _, rfl, by omega, rfl, rfl, by rw [List.drop_of_length_le (by omega)]; rw [List.drop_of_length_le (by omega)] at se; exact se⟩)
    (by
      rintro t h' ⟨s, m, F, x4, x5, hd, hsm, rfl, rfl, se⟩
      cases m with
      | succ m => simp [List.range'_succ] at hd
      | zero =>
        have F8 := se.len o
        rw [List.drop_of_length_le (by omega)] at se
        exact ⟨trivial, F, x4, x5, rfl, se.fin, F8⟩)
    ⟨0, 8, [u], none, none, by rw [rngD_eq]; rfl, rfl, rfl, rfl, Sea.start hu⟩
  refine ⟨F, ?_, hF, l8⟩
  rw [hb, sSeq_ev, s1, seq_nx, sSeq_ev, e, seq_nx]
  simp only [sRet_ev, mVar_ev, List.getElem?_cons_succ, List.getElem?_cons_zero, toS_ok, fin_rt]
  unfold fin1
  rw [if_neg (fun z => by have := z.1; rw [lo_ref] at this; omega)]
theorem c_saved {n : Nat} (hn : 2 ≤ n) {f : Flow} (o : f.ok) {u : List Nat} (hu : u ∈ f.st) (y : List Nat) (h : Hd) :
    ∃ b : Bool, callN T n 20 [f.D, .str u, .str y] h = .ok (.bl b) h ∧ (b = true ↔ ∃ x ∈ f.cl, Rch f (some y) u x) := by
  obtain ⟨m, rfl⟩ := lvl hn
  rw [call_at (F := ⟨3, 4, b__law_saved⟩) rfl]
  obtain ⟨F, e1, hF, l8⟩ := c_reach (n := m + 1) (by omega) o hu y h
  generalize callN T (m + 1) = c at e1
  have ea : ([f.D, .str u, .str y].map some ++ List.replicate (4 - 3) (none : Option Ev.D)) = [some f.D, some (.str u), some (.str y), none] := rfl
  rw [runFn_at (np := 3) (nn := 4) rfl ea]
  have ei : iVal (mCall 19 (aCons (mVar 0) (aCons (mVar 1) (aCons (mVar 2) aNil)))) c [some f.D, some (.str u), some (.str y), none] h = .ok ⟨F.map D.str, some (h.length, F.map D.str)⟩ (h ++ [.lst (F.map D.str)]) := by
    simp [e1, dIter]
  have em : mComp false (iVal (mCall 19 (aCons (mVar 0) (aCons (mVar 1) (aCons (mVar 2) aNil))))) (.nm 3) [3] tYesM (mOp (dIn false) (mVar 3) (mOp dIx (mVar 0) (mC (.int 1)))) c [some f.D, some (.str u), some (.str y), none] h = .ok (.lst (F.map fun x => .bl (decide (x ∈ f.cl)))) (h ++ [.lst (F.map D.str)]) := by
    unfold mComp
    rw [ei, bind_ok, comp_pure (f := fun d => match d with | .str x => some (.bl (decide (x ∈ f.cl))) | _ => none) (show (Src.mk (F.map D.str) (some (h.length, F.map D.str))).ok (h ++ [.lst (F.map D.str)]) from get_last h _)]
    · rw [bind_ok, List.filterMap_map]
      have : (List.filterMap ((fun d => match d with | .str x => some (.bl (decide (x ∈ f.cl))) | _ => none) ∘ D.str) F) = F.map fun x => D.bl (decide (x ∈ f.cl)) := by
        rw [← List.filterMap_eq_map]
        rfl
      rw [this]
      exact freshF _ (by rw [List.length_map]; omega)
    · intro d hd
      obtain ⟨x, _, rfl⟩ := List.mem_map.mp hd
      simp [stepC, asg, wipeT, noX, f1, in_tup]
  have bls : ∀ l : List (List Nat), blsOf (l.map fun x => D.bl (decide (x ∈ f.cl))) = some (l.map fun x => decide (x ∈ f.cl)) := by
    intro l
    induction l with
    | nil => rfl
    | cons x l ih => simp [blsOf, ih]
  refine ⟨(F.map fun x => decide (x ∈ f.cl)).any id, ?_, ?_⟩
  · have gs : gSome [.lst (F.map fun x => .bl (decide (x ∈ f.cl)))] (h ++ [.lst (F.map D.str)]) = .ok (.bl ((F.map fun x => decide (x ∈ f.cl)).any id)) (h ++ [.lst (F.map D.str)]) := by
      simp only [gSome, Ev.listOf, D.see, Option.bind_some, bls]
    show fin h (sRet (mB gSome (aCons (mComp false (iVal (mCall 19 (aCons (mVar 0) (aCons (mVar 1) (aCons (mVar 2) aNil))))) (.nm 3) [3] tYesM (mOp (dIn false) (mVar 3) (mOp dIx (mVar 0) (mC (.int 1))))) aNil)) c _ h) = _
    rw [sRet_ev, mB_ev, aCons_ev, em]
    simp only [bind_ok, aNil_ev, gs, toS_ok, fin_rt]
    exact fin1_app (lo_bl _ _)
  · simp only [List.any_map, List.any_eq_true, Function.comp, id]
    constructor
    · rintro ⟨x, hx, hc⟩
      exact ⟨x, by simpa using hc, (hF x).mp hx⟩
    · rintro ⟨x, hx, r⟩
      exact ⟨x, (hF x).mpr r, by simpa using hx⟩
end K04

namespace K04
open PySem L2 Ev
/-- no state bears the empty name: avoiding it is avoiding none -/
theorem rch_none {f : Flow} (o : f.ok) {u x : List Nat} : Rch f (some []) u x ↔ Rch f none u x := by
  constructor
  · intro r
    induction r with
    | refl => exact .refl
    | step _ hw hs _ ih => exact .step ih hw hs (fun z => by cases z)
  · intro r
    induction r with
    | refl => exact .refl
    | step _ hw hs _ ih => exact .step ih hw hs (fun z => o.ne _ (o.tgt _ hw) (by injection z))
open Classical in
/-- a closed state can be reached without a -/
noncomputable def sv (f : Flow) (a : Option (List Nat)) (u : List Nat) : Bool := decide (∃ x ∈ f.cl, Rch f a u x)
theorem sv_iff {f : Flow} {a : Option (List Nat)} {u : List Nat} : sv f a u = true ↔ ∃ x ∈ f.cl, Rch f a u x := by simp [sv]
theorem sv_none {f : Flow} (o : f.ok) (u : List Nat) : sv f (some []) u = sv f none u := by
  rw [Bool.eq_iff_iff, sv_iff, sv_iff]
  constructor
  · rintro ⟨x, h, r⟩; exact ⟨x, h, (rch_none o).mp r⟩
  · rintro ⟨x, h, r⟩; exact ⟨x, h, (rch_none o).mpr r⟩
theorem c_saves2 {n : Nat} (hn : 3 ≤ n) {f : Flow} (o : f.ok) {u : List Nat} (hu : u ∈ f.st) (a : Option (List Nat)) (h : Hd) : callN T n 6 [f.D, .str u, avD a] h = .ok (.bl (decide (some u ≠ a) && sv f a u)) h := by
  obtain ⟨b, e, hb⟩ := c_saves hn o hu a h
  rw [e]
  congr 2
  rw [Bool.eq_iff_iff, hb, Bool.and_eq_true, decide_eq_true_iff, sv_iff]
theorem c_saved2 {n : Nat} (hn : 2 ≤ n) {f : Flow} (o : f.ok) {u : List Nat} (hu : u ∈ f.st) (y : List Nat) (h : Hd) : callN T n 20 [f.D, .str u, .str y] h = .ok (.bl (sv f (some y) u)) h := by
  obtain ⟨b, e, hb⟩ := c_saved hn o hu y h
  rw [e]
  congr 2
  rw [Bool.eq_iff_iff, hb, sv_iff]
/-- states left by a test -/
theorem comp_filter {c : Calls} {t : Tau} {h : Hd} {src : Src} {i : Nat} {K : MB} (hs : src.ok h) (hi : i < t.length) (P : List Nat → Bool) : ∀ l : List (List Nat), (∀ x ∈ l, K c ((wipeT t [i]).set i (some (.str x))) h = .ok (P x) h) → compL src (stepC c (wipeT t [i]) (.nm i) K (mVar i)) (l.map D.str) h = .ok ((l.filter P).map D.str) h
  | [], _ => by
    rw [List.map_nil]
    unfold compL
    rw [if_pos hs]
    rfl
  | x :: l, hk => by
    rw [List.map_cons]
    unfold compL
    have v : ((wipeT t [i]).set i (some (.str x)))[i]? = some (some (.str x)) := List.getElem?_set_self (by simpa [wipeT] using hi)
    have est : stepC c (wipeT t [i]) (.nm i) K (mVar i) (.str x) h = .ok (if P x = true then some (.str x) else none) h := by
      unfold stepC asg
      simp only [hk x (List.mem_cons_self ..), bind_ok, mVar_ev, v]
      cases P x <;> rfl
    rw [if_pos hs, est, bind_ok, comp_filter hs hi P l fun y hy => hk y (List.mem_cons_of_mem _ hy), bind_ok]
    cases e : P x <;> simp [List.filter_cons, e]
theorem comp_states {c : Calls} {t : Tau} {h : Hd} {i : Nat} {K : MB} {it : MI} {l : List (List Nat)} (ei : it c t h = .ok ⟨l.map D.str, none⟩ h) (hi : i < t.length) (P : List Nat → Bool) (hz : l.length ≤ 1000) (hk : ∀ x ∈ l, K c ((wipeT t [i]).set i (some (.str x))) h = .ok (P x) h) : mComp false it (.nm i) [i] K (mVar i) c t h = .ok (.lst ((l.filter P).map D.str)) h := by
  unfold mComp
  rw [ei, bind_ok, comp_filter (src := ⟨l.map D.str, none⟩) trivial hi P l hk, bind_ok]
  refine freshF _ ?_
  have := List.length_filter_le P l
  rw [List.length_map]; omega
theorem tup_of (l : List (List Nat)) (h : Hd) : gTuple [.lst (l.map D.str)] h = .ok (.tup (l.map D.str)) h := by simp [gTuple, seqOf, D.see]
theorem lo_strs (n : Nat) (l : List (List Nat)) : (D.tup (l.map D.str)).lo n := plain_lo (by simp only [D.plain]; exact plain_strs l)
theorem c_dead {n : Nat} (hn : 4 ≤ n) {f : Flow} (o : f.ok) (h : Hd) : callN T n 7 [f.D] h = .ok (.tup ((f.st.filter fun s => !sv f none s).map D.str)) h := by
  obtain ⟨m, rfl⟩ := lvl hn
  rw [call_at (F := ⟨1, 2, b_dead_states⟩) rfl]
  have es := fun (u : List Nat) (hu : u ∈ f.st) => c_saves2 (n := m + 3) (by omega) o hu none h
  generalize callN T (m + 3) = c at es
  have ea : ([f.D].map some ++ List.replicate (2 - 1) (none : Option Ev.D)) = [some f.D, none] := rfl
  rw [runFn_at (np := 1) (nn := 2) rfl ea]
  have em := comp_states (c := c) (t := [some f.D, none]) (h := h) (i := 1) (it := iVal (mOp dIx (mVar 0) (mC (.int 0)))) (K := tNot (tVal (mCall 6 (aCons (mVar 0) (aCons (mVar 1) (aCons (mC .non) aNil)))))) (l := f.st) (by simp [f0, dIter]) (by simp) (fun s => !sv f none s) (by have := o.s8; omega) (fun x hx => by
    have := es x hx
    simp only [avD] at this
    simp [wipeT, this, dTrue, D.see])
  show fin h (sRet (mB gTuple (aCons (mComp false (iVal (mOp dIx (mVar 0) (mC (.int 0)))) (.nm 1) [1] (tNot (tVal (mCall 6 (aCons (mVar 0) (aCons (mVar 1) (aCons (mC .non) aNil)))))) (mVar 1)) aNil)) c _ h) = _
  rw [sRet_ev, mB_ev, aCons_ev, em]
  simp only [bind_ok, aNil_ev, tup_of, toS_ok, fin_rt]
  exact fin1_same (hd := lo_strs _ _)
end K04

namespace K04
open PySem L2 Ev
abbrev wDead : List Nat := [100, 101, 97, 100]
theorem c_mustX {n : Nat} (hn : 2 ≤ n) (f : Flow) {u : List Nat} (hu : u ∉ f.st) (h : Hd) : callN T n 12 [f.D, .str u] h = .exn 1 [.str u] h := by
  obtain ⟨m, rfl⟩ := lvl hn
  rw [call_at (F := ⟨2, 3, b_must_pass⟩) rfl]
  have e1 := c_requireX (n := m + 1) (by omega) f hu h
  generalize callN T (m + 1) = c at e1
  simp [runFn, b_must_pass, e1, finX]
theorem c_must {n : Nat} (hn : 4 ≤ n) {f : Flow} (o : f.ok) {u : List Nat} (hu : u ∈ f.st) (h : Hd) : callN T n 12 [f.D, .str u] h = if sv f none u = true then .ok (.tup ((f.st.filter fun x => !(decide (u ≠ x) && sv f (some x) u)).map D.str)) h else .exn 2 [.str wDead] h := by
  obtain ⟨m, rfl⟩ := lvl hn
  rw [call_at (F := ⟨2, 3, b_must_pass⟩) rfl]
  have e1 := c_require (n := m + 3) (by omega) f hu h
  have es := fun (a : Option (List Nat)) => c_saves2 (n := m + 3) (by omega) o hu a h
  generalize callN T (m + 3) = c at e1 es
  have ea : ([f.D, .str u].map some ++ List.replicate (3 - 2) (none : Option Ev.D)) = [some f.D, some (.str u), none] := rfl
  rw [runFn_at (np := 2) (nn := 3) rfl ea]
  have hb : b_must_pass = sSeq (sExpr (mCall 2 (aCons (mVar 0) (aCons (mVar 1) aNil)))) (sSeq (sIf (tNot (tVal (mCall 6 (aCons (mVar 0) (aCons (mVar 1) (aCons (mC .non) aNil)))))) (sRaise 2 1 (aCons (mC (.str [100, 101, 97, 100])) aNil)) sNil)
    (sRet (mB gTuple (aCons (mComp false (iVal (mOp dIx (mVar 0) (mC (.int 0)))) (.nm 2) [2] (tNot (tVal (mCall 6 (aCons (mVar 0) (aCons (mVar 1) (aCons (mVar 2) aNil)))))) (mVar 2)) aNil)))) := rfl
  have s1 : sExpr (mCall 2 (aCons (mVar 0) (aCons (mVar 1) aNil))) c [some f.D, some (.str u), none] h = .nx [some f.D, some (.str u), none] h := by simp [e1]
  have t1 : tNot (tVal (mCall 6 (aCons (mVar 0) (aCons (mVar 1) (aCons (mC .non) aNil))))) c [some f.D, some (.str u), none] h = .ok (!sv f none u) h := by
    have := es none
    simp only [avD] at this
    simp [this, dTrue, D.see]
  rw [hb, sSeq_ev, s1, seq_nx, sSeq_ev, sIf_ev, t1, toS_ok]
  by_cases q : sv f none u = true
  · rw [if_pos q, q, if_neg (by decide)]
    have em := comp_states (c := c) (t := [some f.D, some (.str u), none]) (h := h) (i := 2) (it := iVal (mOp dIx (mVar 0) (mC (.int 0)))) (K := tNot (tVal (mCall 6 (aCons (mVar 0) (aCons (mVar 1) (aCons (mVar 2) aNil)))))) (l := f.st) (by simp [f0, dIter]) (by simp) (fun x => !(decide (u ≠ x) && sv f (some x) u)) (by have := o.s8; omega) (fun x hx => by
      have := es (some x)
      simp only [avD] at this
      simp [wipeT, this, dTrue, D.see])
    rw [sNil_ev, seq_nx, sRet_ev, mB_ev, aCons_ev, em]
    simp only [bind_ok, aNil_ev, tup_of, toS_ok, fin_rt]
    exact fin1_same (hd := lo_strs _ _)
  · have q' : sv f none u = false := by simpa using q
    rw [if_neg q, q', if_pos (by decide)]
    simp [sRaise, finX]
abbrev rrIn : MS := (sIf (tCmp (mOp (dIn true) (mOp dIx (mVar 5) (mC (.int 2))) (mVar 2)))
  (sSeq (sPut (mVar 2) (mOp dIx (mVar 5) (mC (.int 2))) (mC (.bl true)))
  (sExpr (mMt kAppend (mVar 3) (aCons (mOp dIx (mVar 5) (mC (.int 2))) aNil))))
  sNil)
theorem rr_in {c : Calls} {b : Hd} {x0 x1 x4 x6 : Option Ev.D} {w : Way} {F W : List (List Nat)} {es : List (Ev.D × Ev.D)} (k : Keys es F) (hF : F.length ≤ 1000) (hW : W.length ≤ 1000) :
    ∃ es', rrIn c [x0, x1, some (.ref b.length), some (.ref (b.length + 1)), x4, some w.D, x6] (b ++ [.dict es, .lst (W.map D.str)]) = .nx [x0, x1, some (.ref b.length), some (.ref (b.length + 1)), x4, some w.D, x6] (b ++ [.dict es', .lst ((vis none (F, W) w).2.map D.str)]) ∧ Keys es' (vis none (F, W) w).1 := by
  have e1 : tCmp (mOp (dIn true) (mOp dIx (mVar 5) (mC (.int 2))) (mVar 2)) c [x0, x1, some (.ref b.length), some (.ref (b.length + 1)), x4, some w.D, x6] (b ++ [.dict es, .lst (W.map D.str)]) = .ok (decide (w.t ∉ F)) (b ++ [.dict es, .lst (W.map D.str)]) := by
    have := in_dict (n := true) (x := w.t) (get1 b (.dict es) (.lst (W.map D.str)))
    rw [k.key] at this
    simp only [tCmp_ev, mOp_ev, mVar_ev, List.getElem?_cons_succ, List.getElem?_cons_zero, bind_ok, mC_ev, w2, this, dBl_ev]
    by_cases q : w.t ∈ F <;> simp [q]
  have hg : goes none w := fun z => by cases z
  by_cases q : w.t ∉ F
  · rw [show vis none (F, W) w = (F ++ [w.t], W ++ [w.t]) from if_pos ⟨q, hg⟩]
    refine ⟨putD es (.str w.t) (.bl true), ?_, k.put _ _⟩
    have kl := k.len
    have p := put_at (c := c) (t := [x0, x1, some (.ref b.length), some (.ref (b.length + 1)), x4, some w.D, x6]) (i := 2) (mk := mOp dIx (mVar 5) (mC (.int 2))) (mv := mC (.bl true)) (k := w.t) (v := .bl true) rfl (get1 b (.dict es) (.lst (W.map D.str))) (by simp [w2]) rfl (by omega)
    rw [set1] at p
    have ap := append_at (c := c) (t := [x0, x1, some (.ref b.length), some (.ref (b.length + 1)), x4, some w.D, x6]) (h := b ++ [.dict (putD es (.str w.t) (.bl true)), .lst (W.map D.str)]) (i := 3) (L := b.length + 1) (m := mOp dIx (mVar 5) (mC (.int 2))) (d := .str w.t) (xs := W.map D.str) (ys := W.map D.str) rfl (get2 b (.dict (putD es (.str w.t) (.bl true))) (.lst (W.map D.str))) (by simp [w2]) (get2 b (.dict (putD es (.str w.t) (.bl true))) (.lst (W.map D.str))) (by rw [List.length_map]; omega)
    rw [set2] at ap
    unfold rrIn
    rw [sIf_ev, e1, decide_eq_true q, toS_ok, if_pos rfl, sSeq_ev, p, seq_nx, ap, List.map_append, List.map_singleton]
  · rw [show vis none (F, W) w = (F, W) from if_neg fun z => q z.1]
    refine ⟨es, ?_, k⟩
    unfold rrIn
    rw [sIf_ev, e1, decide_eq_false q, toS_ok, if_neg (by decide)]
    rfl
theorem rr_for {n : Nat} (hn : 2 ≤ n) {f : Flow} (o : f.ok) {b : Hd} {x1 x5 x6 : Option Ev.D} {v : List Nat} (hv : v ∈ f.st) {F W F' W' : List (List Nat)} {es : List (Ev.D × Ev.D)} (k : Keys es F) (hF : F.length ≤ 100) (hW : W.length ≤ 100) (e : (outs f v).foldl (vis none) (F, W) = (F', W')) :
    ∃ es' y5, sFor (iVal (mCall 3 (aCons (mVar 0) (aCons (mVar 4) aNil)))) (.nm 5) rrIn (callN T n) [some f.D, x1, some (.ref b.length), some (.ref (b.length + 1)), some (.str v), x5, x6] (b ++ [.dict es, .lst (W.map D.str)]) = .nx [some f.D, x1, some (.ref b.length), some (.ref (b.length + 1)), some (.str v), y5, x6] (b ++ [.dict es', .lst (W'.map D.str)]) ∧ Keys es' F' := by
  have ew := c_ways (n := n) hn o hv (b ++ [.dict es, .lst (W.map D.str)])
  generalize callN T n = c at ew
  have ei : iVal (mCall 3 (aCons (mVar 0) (aCons (mVar 4) aNil))) c [some f.D, x1, some (.ref b.length), some (.ref (b.length + 1)), some (.str v), x5, x6] (b ++ [.dict es, .lst (W.map D.str)]) = .ok ⟨(outs f v).map Way.D, none⟩ (b ++ [.dict es, .lst (W.map D.str)]) := by
    simp [ew, dIter]
  have ol : (outs f v).length ≤ 16 := Nat.le_trans (List.length_filter_le _ _) o.w16
  refine sFor_gen (b := rrIn) (g := .nm 5) (I := fun ds t h' => ∃ (todo : List Way) (G V : List (List Nat)) (es : List (Ev.D × Ev.D)) (x5 : Option Ev.D), ds = todo.map Way.D ∧ t = [some f.D, x1, some (.ref b.length), some (.ref (b.length + 1)), some (.str v), x5, x6] ∧ h' = b ++ [.dict es, .lst (V.map D.str)] ∧ Keys es G ∧ todo.foldl (vis none) (G, V) = (F', W') ∧ G.length + todo.length ≤ 900 ∧ V.length + todo.length ≤ 900)
    (O := fun y => ∃ (es' : List (Ev.D × Ev.D)) (y5 : Option Ev.D), y = .nx [some f.D, x1, some (.ref b.length), some (.ref (b.length + 1)), some (.str v), y5, x6] (b ++ [.dict es', .lst (W'.map D.str)]) ∧ Keys es' F') ei ?_ ?_ ?_
  · rintro d ds t h' ⟨todo, G, V, es, x5, hd, rfl, rfl, kk, ef, z1, z2⟩
    cases todo with
    | nil => simp at hd
    | cons w todo =>
      rw [List.map_cons] at hd
      obtain ⟨rfl, rfl⟩ := List.cons.inj hd
      rw [List.length_cons] at z1 z2
      obtain ⟨es', e1, k1⟩ := rr_in (c := c) (b := b) (x0 := some f.D) (x1 := x1) (x4 := some (.str v)) (x6 := x6) (w := w) (W := V) kk (by omega) (by omega)
      refine ⟨trivial, [some f.D, x1, some (.ref b.length), some (.ref (b.length + 1)), some (.str v), some w.D, x6], rfl, ?_⟩
      rw [e1]
      have vl := vis_len (a := none) (G, V) w
      exact .nx ⟨todo, (vis none (G, V) w).1, (vis none (G, V) w).2, es', some w.D, rfl, rfl, rfl, k1, by rw [← ef]; rfl, by have := vl.1; simp only at this; omega, by have := vl.2; simp only at this; omega⟩
  · rintro t h' ⟨todo, G, V, es, x5, hd, rfl, rfl, kk, ef, z1, z2⟩
    cases todo with
    | cons w todo => simp at hd
    | nil =>
      have ef : (G, V) = (F', W') := ef
      obtain ⟨rfl, rfl⟩ := Prod.mk.inj ef
      exact ⟨trivial, es, x5, rfl, kk⟩
  · exact ⟨outs f v, F, W, es, x5, rfl, rfl, rfl, k, e, by omega, by omega⟩
noncomputable abbrev rrBody : MS := (sSeq (sSet 4 (mMt kPop (mVar 3) aNil)) (sFor (iVal (mCall 3 (aCons (mVar 0) (aCons (mVar 4) aNil)))) (.nm 5) rrIn))
open Classical in
noncomputable def rc (f : Flow) (u x : List Nat) : Bool := decide (Rch f none u x)
theorem rc_iff {f : Flow} {u x : List Nat} : rc f u x = true ↔ Rch f none u x := by simp [rc]
theorem c_reachable {n : Nat} (hn : 3 ≤ n) {f : Flow} (o : f.ok) {u : List Nat} (hu : u ∈ f.st) (h : Hd) : callN T n 5 [f.D, .str u] h = .ok (.tup ((f.st.filter (rc f u)).map D.str)) h := by
  obtain ⟨m, rfl⟩ := lvl hn
  rw [call_at (F := ⟨2, 7, b_reachable⟩) rfl]
  have e1 := c_require (n := m + 2) (by omega) f hu h
  have rf := fun (b : Hd) (x1 x5 x6 : Option Ev.D) (v : List Nat) (hv : v ∈ f.st) (F W F' W' : List (List Nat)) (es : List (Ev.D × Ev.D)) (k : Keys es F) (hF : F.length ≤ 100) (hW : W.length ≤ 100) (e : (outs f v).foldl (vis none) (F, W) = (F', W')) => rr_for (n := m + 2) (by omega) o (b := b) (x1 := x1) (x5 := x5) (x6 := x6) hv k hF hW e
  generalize callN T (m + 2) = c at rf e1
  have ea : ([f.D, .str u].map some ++ List.replicate (7 - 2) (none : Option Ev.D)) = [some f.D, some (.str u), none, none, none, none, none] := rfl
  rw [runFn_at (np := 2) (nn := 7) rfl ea]
  have hb : b_reachable = sSeq (sExpr (mCall 2 (aCons (mVar 0) (aCons (mVar 1) aNil)))) (sSeq (sSet 2 (mDict1 (mVar 1) (mC (.bl true)))) (sSeq (sSet 3 (mLst true (aCons (mVar 1) aNil))) (sSeq (sWhile (tVal (mVar 3)) rrBody)
    (sRet (mB gTuple (aCons (mComp false (iVal (mOp dIx (mVar 0) (mC (.int 0)))) (.nm 6) [6] (tCmp (mOp (dIn false) (mVar 6) (mVar 2))) (mVar 6)) aNil)))))) := rfl
  have s0 : sExpr (mCall 2 (aCons (mVar 0) (aCons (mVar 1) aNil))) c [some f.D, some (.str u), none, none, none, none, none] h = .nx [some f.D, some (.str u), none, none, none, none, none] h := by simp [e1]
  have s1 : sSet 2 (mDict1 (mVar 1) (mC (.bl true))) c [some f.D, some (.str u), none, none, none, none, none] h = .nx [some f.D, some (.str u), some (.ref h.length), none, none, none, none] (h ++ [.dict [(.str u, .bl true)]]) := by
    simp [dOne, keyOk]
  have s2 : sSet 3 (mLst true (aCons (mVar 1) aNil)) c [some f.D, some (.str u), some (.ref h.length), none, none, none, none] (h ++ [.dict [(.str u, .bl true)]]) = .nx [some f.D, some (.str u), some (.ref h.length), some (.ref (h.length + 1)), none, none, none] (h ++ [.dict [(.str u, .bl true)], .lst [.str u]]) := by
    simp
  obtain ⟨F, es, x4, x5, e, kk, hF⟩ := sWhile_gen (k := tVal (mVar 3)) (b := rrBody) (c := c) (t := [some f.D, some (.str u), some (.ref h.length), some (.ref (h.length + 1)), none, none, none]) (h := h ++ [.dict [(.str u, .bl true)], .lst [.str u]])
    (I := fun n t h' => ∃ (F W : List (List Nat)) (es : List (Ev.D × Ev.D)) (x4 x5 : Option Ev.D), t = [some f.D, some (.str u), some (.ref h.length), some (.ref (h.length + 1)), x4, x5, none] ∧ h' = h ++ [.dict es, .lst (W.map D.str)] ∧ Keys es F ∧ Sea f none u F W ∧ n = 2 * (8 - F.length) + W.length ∧ W.length ≤ F.length)
    (O := fun y => ∃ (F : List (List Nat)) (es : List (Ev.D × Ev.D)) (x4 x5 : Option Ev.D), y = .nx [some f.D, some (.str u), some (.ref h.length), some (.ref (h.length + 1)), x4, x5, none] (h ++ [.dict es, .lst []]) ∧ Keys es F ∧ ∀ x, x ∈ F ↔ Rch f none u x)
    (fun n t g ⟨F, W, es, x4, x5, ht, hh, kk, s, hm, hwf⟩ => by
      subst ht hh hm
      rcases List.eq_nil_or_concat W with rfl | ⟨W, v, rfl⟩
      · exact .inl ⟨by simp [dTrue, D.see], F, es, x4, x5, rfl, kk, s.fin⟩
      · rw [List.concat_eq_append] at *
        have hv : v ∈ F := s.wf v (by simp)
        have F8 := s.len o
        refine .inr ⟨by simp [dTrue, D.see], ?_⟩
        have p := pop_at (c := c) (t := [some f.D, some (.str u), some (.ref h.length), some (.ref (h.length + 1)), x4, x5, none]) (i := 3) (L := h.length + 1) (ys := W.map D.str) (y := .str v) rfl (get2 h (.dict es) _)
        rw [set2] at p
        have t1 : sSet 4 (mMt kPop (mVar 3) aNil) c [some f.D, some (.str u), some (.ref h.length), some (.ref (h.length + 1)), x4, x5, none] (h ++ [.dict es, .lst ((W ++ [v]).map D.str)]) = .nx [some f.D, some (.str u), some (.ref h.length), some (.ref (h.length + 1)), some (.str v), x5, none] (h ++ [.dict es, .lst (W.map D.str)]) := by
          rw [sSet_ev, List.map_append, List.map_singleton, p, toS_ok]; rfl
        obtain ⟨F', W', e, s', l1, l2⟩ := s.turn o
        have F8' := s'.len o
        simp at hwf
        obtain ⟨es', y5, ef, kk'⟩ := rf h (some (.str u)) x5 none v (s.st v hv) F W F' W' es kk (by omega) (by omega) e
        unfold rrBody
        rw [sSeq_ev, t1, seq_nx, ef]
        exact .nx ⟨_, by simp; omega, F', W', es', some (.str v), y5, rfl, rfl, kk', s', rfl, by omega⟩) 15 (by omega) ⟨[u], [u], [(.str u, .bl true)], none, none, rfl, rfl, Keys.one u _, Sea.start hu, rfl, by simp⟩
  have em := comp_states (c := c) (t := [some f.D, some (.str u), some (.ref h.length), some (.ref (h.length + 1)), x4, x5, none]) (h := h ++ [.dict es, .lst []]) (i := 6) (it := iVal (mOp dIx (mVar 0) (mC (.int 0)))) (K := tCmp (mOp (dIn false) (mVar 6) (mVar 2))) (l := f.st) (by simp [f0, dIter]) (by simp) (rc f u) (by have := o.s8; omega) (fun x hx => by
    have := in_dict (n := false) (x := x) (get1 h (.dict es) (.lst []))
    rw [kk.key] at this
    have e2 : (false != decide (x ∈ F)) = rc f u x := by
      rw [Bool.false_bne, Bool.eq_iff_iff, decide_eq_true_iff, rc_iff, hF]
    rw [e2] at this
    simp only [tCmp_ev, mOp_ev, mVar_ev, wipeT, List.set_cons_succ, List.set_cons_zero, List.getElem?_cons_succ, List.getElem?_cons_zero, bind_ok, this, dBl_ev])
  rw [hb, sSeq_ev, s0, seq_nx, sSeq_ev, s1, seq_nx, sSeq_ev, s2, seq_nx, sSeq_ev, e, seq_nx, sRet_ev, mB_ev, aCons_ev, em]
  simp only [bind_ok, aNil_ev, tup_of, toS_ok, fin_rt]
  exact fin1_app (lo_strs _ _)
end K04

namespace K04
open PySem L2 Ev
def woD : Option Way → Ev.D
  | none => .non
  | some w => w.D
def named (f : Flow) (x n : List Nat) : Option Way := (outs f x).find? fun w => decide (w.n = n)
theorem named_mem {f : Flow} {x n : List Nat} {w : Way} (h : named f x n = some w) : w ∈ f.ws ∧ w.s = x ∧ w.n = n := by
  have h1 := List.mem_of_find?_eq_some h
  have h2 := List.find?_some h
  have h3 := List.mem_filter.mp h1
  exact ⟨h3.1, by simpa using h3.2, by simpa using h2⟩
theorem Way.lo {w : Way} (h : D.plainA w.ns = true) (k : Nat) : w.D.lo k := plain_lo (w.plain h)
theorem c_find {n : Nat} (hn : 3 ≤ n) {f : Flow} (o : f.ok) {x : List Nat} (hx : x ∈ f.st) (nm : List Nat) (h : Hd) : callN T n 4 [f.D, .str x, .str nm] h = .ok (woD (named f x nm)) h := by
  obtain ⟨m, rfl⟩ := lvl hn
  rw [call_at (F := ⟨3, 4, b_find_way⟩) rfl]
  have ew := c_ways (n := m + 2) (by omega) o hx h
  generalize callN T (m + 2) = c at ew
  have ea : ([f.D, .str x, .str nm].map some ++ List.replicate (4 - 3) (none : Option Ev.D)) = [some f.D, some (.str x), some (.str nm), none] := rfl
  rw [runFn_at (np := 3) (nn := 4) rfl ea]
  have hb : b_find_way = sSeq (sFor (iVal (mCall 3 (aCons (mVar 0) (aCons (mVar 1) aNil)))) (.nm 3) (sIf (tCmp (mOp (dEq false) (mOp dIx (mVar 3) (mC (.int 0))) (mVar 2))) (sRet (mVar 3)) sNil)) (sRet (mC .non)) := rfl
  have ei : iVal (mCall 3 (aCons (mVar 0) (aCons (mVar 1) aNil))) c [some f.D, some (.str x), some (.str nm), none] h = .ok ⟨(outs f x).map Way.D, none⟩ h := by
    simp [ew, dIter]
  have key := sFor_gen (b := (sIf (tCmp (mOp (dEq false) (mOp dIx (mVar 3) (mC (.int 0))) (mVar 2))) (sRet (mVar 3)) sNil)) (g := .nm 3) (I := fun ds t h' => ∃ (todo : List Way) (x3 : Option Ev.D), ds = todo.map Way.D ∧ t = [some f.D, some (.str x), some (.str nm), x3] ∧ h' = h ∧ todo.find? (fun w => decide (w.n = nm)) = named f x nm)
    (O := fun y => (∃ t', y = .nx t' h ∧ named f x nm = none) ∨ ∃ w, y = .rt w.D h ∧ named f x nm = some w) ei
    (by
      rintro d ds t h' ⟨todo, x3, hd, rfl, rfl, ef⟩
      cases todo with
      | nil => simp at hd
      | cons w todo =>
        rw [List.map_cons] at hd
        obtain ⟨rfl, rfl⟩ := List.cons.inj hd
        refine ⟨trivial, [some f.D, some (.str x), some (.str nm), some w.D], rfl, ?_⟩
        have tt : tCmp (mOp (dEq false) (mOp dIx (mVar 3) (mC (.int 0))) (mVar 2)) c [some f.D, some (.str x), some (.str nm), some w.D] h' = .ok (decide (w.n = nm)) h' := by
          simp only [tCmp_ev, mOp_ev, mVar_ev, List.getElem?_cons_succ, List.getElem?_cons_zero, bind_ok, mC_ev, w0, eq_w, dBl_ev]
        rw [sIf_ev, tt, toS_ok]
        by_cases q : w.n = nm
        · rw [decide_eq_true q, if_pos rfl]
          rw [List.find?_cons_of_pos (by simpa using q)] at ef
          exact .rt (.inr ⟨w, rfl, ef.symm⟩)
        · rw [decide_eq_false q, if_neg (by decide)]
          rw [List.find?_cons_of_neg (by simpa using q)] at ef
          exact .nx ⟨todo, _, rfl, rfl, rfl, ef⟩)
    (by
      rintro t h' ⟨todo, x3, hd, rfl, rfl, ef⟩
      cases todo with
      | cons w todo => simp at hd
      | nil => exact ⟨trivial, .inl ⟨_, rfl, ef.symm⟩⟩)
    ⟨outs f x, none, rfl, rfl, rfl, rfl⟩
  rcases key with ⟨t', e, en⟩ | ⟨w, e, en⟩
  · rw [hb, sSeq_ev, e, seq_nx, en]
    exact fin1_same (hd := lo_non _)
  · rw [hb, sSeq_ev, e, en]
    exact fin1_same (hd := w.lo (o.pl w (named_mem en).1) _)
/-- the state behind a walk by names -/
def along (f : Flow) : List Nat → List (List Nat) → Option (List Nat)
  | x, [] => some x
  | x, n :: ns => match named f x n with
    | none => none
    | some w => along f w.t ns
def soD : Option (List Nat) → Ev.D
  | none => .non
  | some x => .str x
theorem wo_isN (o : Option Way) (h : Hd) : dIsN false (woD o) h = .ok (.bl (decide (o = none))) h := by
  cases o with
  | none => simp [woD, dIsN]
  | some w => simp [woD, Way.D, dIsN]
theorem c_along {n : Nat} (hn : 4 ≤ n) {f : Flow} (o : f.ok) {x : List Nat} (hx : x ∈ f.st) (ns : List (List Nat)) (h : Hd) : callN T n 9 [f.D, .str x, .tup (ns.map D.str)] h = .ok (soD (along f x ns)) h := by
  obtain ⟨m, rfl⟩ := lvl hn
  rw [call_at (F := ⟨3, 6, b_walk_along⟩) rfl]
  have e1 := c_require (n := m + 3) (by omega) f hx h
  have ef := fun (v : List Nat) (hv : v ∈ f.st) (nm : List Nat) => c_find (n := m + 3) (by omega) o hv nm h
  generalize callN T (m + 3) = c at e1 ef
  have ea : ([f.D, .str x, .tup (ns.map D.str)].map some ++ List.replicate (6 - 3) (none : Option Ev.D)) = [some f.D, some (.str x), some (.tup (ns.map D.str)), none, none, none] := rfl
  rw [runFn_at (np := 3) (nn := 6) rfl ea]
  have hb : b_walk_along = sSeq (sExpr (mCall 2 (aCons (mVar 0) (aCons (mVar 1) aNil)))) (sSeq (sSet 3 (mVar 1)) (sSeq (sFor (iVal (mVar 2)) (.nm 4) (sSeq (sSet 5 (mCall 4 (aCons (mVar 0) (aCons (mVar 3) (aCons (mVar 4) aNil))))) (sSeq (sIf (tCmp (mUn (dIsN false) (mVar 5))) (sRet (mC .non)) sNil) (sSet 3 (mOp dIx (mVar 5) (mC (.int 2))))))) (sRet (mVar 3)))) := rfl
  have s0 : sExpr (mCall 2 (aCons (mVar 0) (aCons (mVar 1) aNil))) c [some f.D, some (.str x), some (.tup (ns.map D.str)), none, none, none] h = .nx [some f.D, some (.str x), some (.tup (ns.map D.str)), none, none, none] h := by simp [e1]
  have s1 : sSet 3 (mVar 1) c [some f.D, some (.str x), some (.tup (ns.map D.str)), none, none, none] h = .nx [some f.D, some (.str x), some (.tup (ns.map D.str)), some (.str x), none, none] h := by simp
  have key := sFor_gen (it := iVal (mVar 2)) (c := c) (t := [some f.D, some (.str x), some (.tup (ns.map D.str)), some (.str x), none, none]) (h := h) (h1 := h) (s := ⟨ns.map D.str, none⟩) (b := (sSeq (sSet 5 (mCall 4 (aCons (mVar 0) (aCons (mVar 3) (aCons (mVar 4) aNil))))) (sSeq (sIf (tCmp (mUn (dIsN false) (mVar 5))) (sRet (mC .non)) sNil) (sSet 3 (mOp dIx (mVar 5) (mC (.int 2))))))) (g := .nm 4)
    (I := fun ds t h' => ∃ (todo : List (List Nat)) (v : List Nat) (x4 x5 : Option Ev.D), ds = todo.map D.str ∧ t = [some f.D, some (.str x), some (.tup (ns.map D.str)), some (.str v), x4, x5] ∧ h' = h ∧ v ∈ f.st ∧ along f v todo = along f x ns)
    (O := fun y => (∃ v x4 x5, y = .nx [some f.D, some (.str x), some (.tup (ns.map D.str)), some (.str v), x4, x5] h ∧ along f x ns = some v) ∨ (y = .rt .non h ∧ along f x ns = none)) (by simp [dIter])
    (by
      rintro d ds t h' ⟨todo, v, x4, x5, hd, rfl, rfl, hv, ea⟩
      cases todo with
      | nil => simp at hd
      | cons nm todo =>
        rw [List.map_cons] at hd
        obtain ⟨rfl, rfl⟩ := List.cons.inj hd
        refine ⟨trivial, [some f.D, some (.str x), some (.tup (ns.map D.str)), some (.str v), some (.str nm), x5], rfl, ?_⟩
        have e5 : sSet 5 (mCall 4 (aCons (mVar 0) (aCons (mVar 3) (aCons (mVar 4) aNil)))) c [some f.D, some (.str x), some (.tup (ns.map D.str)), some (.str v), some (.str nm), x5] h' = .nx [some f.D, some (.str x), some (.tup (ns.map D.str)), some (.str v), some (.str nm), some (woD (named f v nm))] h' := by
          simp [ef v hv nm]
        have tt : tCmp (mUn (dIsN false) (mVar 5)) c [some f.D, some (.str x), some (.tup (ns.map D.str)), some (.str v), some (.str nm), some (woD (named f v nm))] h' = .ok (decide (named f v nm = none)) h' := by
          simp only [tCmp_ev, mUn_ev, mVar_ev, List.getElem?_cons_succ, List.getElem?_cons_zero, bind_ok, wo_isN, dBl_ev]
        rw [sSeq_ev, e5, seq_nx, sSeq_ev, sIf_ev, tt, toS_ok]
        cases en : named f v nm with
        | none =>
          rw [decide_eq_true rfl, if_pos rfl]
          refine .rt (.inr ⟨rfl, ?_⟩)
          rw [← ea]
          simp only [along, en]
        | some w =>
          rw [decide_eq_false (by simp), if_neg (by decide), sNil_ev, seq_nx]
          have e3 : sSet 3 (mOp dIx (mVar 5) (mC (.int 2))) c [some f.D, some (.str x), some (.tup (ns.map D.str)), some (.str v), some (.str nm), some (woD (some w))] h' = .nx [some f.D, some (.str x), some (.tup (ns.map D.str)), some (.str w.t), some (.str nm), some (woD (some w))] h' := by
            simp [woD, w2]
          rw [e3]
          refine .nx ⟨todo, w.t, _, _, rfl, rfl, rfl, o.tgt w (named_mem en).1, ?_⟩
          rw [← ea]
          simp only [along, en])
    (by
      rintro t h' ⟨todo, v, x4, x5, hd, rfl, rfl, hv, ea⟩
      cases todo with
      | cons w todo => simp at hd
      | nil => exact ⟨trivial, .inl ⟨v, x4, x5, rfl, ea.symm⟩⟩)
    ⟨ns, x, none, none, rfl, rfl, rfl, hx, rfl⟩
  rcases key with ⟨v, x4, x5, e, en⟩ | ⟨e, en⟩
  · rw [hb, sSeq_ev, s0, seq_nx, sSeq_ev, s1, seq_nx, sSeq_ev, e, seq_nx, en]
    exact fin1_same (hd := lo_str _ _)
  · rw [hb, sSeq_ev, s0, seq_nx, sSeq_ev, s1, seq_nx, sSeq_ev, e, en]
    exact fin1_same (hd := lo_non _)
end K04

namespace K04
open PySem L2 Ev
theorem named_head (f : Flow) (x n : List Nat) : ∀ ws : List Way, (ws.filter fun w => decide (w.s = x)).find? (fun w => decide (w.n = n)) = (ws.filter fun w => decide (w.s = x ∧ w.n = n)).head?
  | [] => rfl
  | w :: ws => by
    have ih := named_head f x n ws
    by_cases h1 : w.s = x
    · by_cases h2 : w.n = n
      · simp [h1, h2]
      · rw [List.filter_cons_of_pos (by simpa using h1), List.find?_cons_of_neg (by simpa using h2), List.filter_cons_of_neg (by simp [h2]), ih]
    · rw [List.filter_cons_of_neg (by simpa using h1), List.filter_cons_of_neg (by simp [h1]), ih]
abbrev laK : MB := tAnd (tCmp (mOp (dEq false) (mOp dIx (mVar 6) (mC (.int 1))) (mVar 3))) (tCmp (mOp (dEq false) (mOp dIx (mVar 6) (mC (.int 0))) (mVar 4)))
theorem la_comp {c : Calls} {t : Tau} {h : Hd} {v nm : List Nat} {src : Src} (hs : src.ok h) (tl : t.length = 7) (t3 : t[3]? = some (some (.str v))) (t4 : t[4]? = some (some (.str nm))) : ∀ ws : List Way, compL src (stepC c (wipeT t [6]) (.nm 6) laK (mOp dIx (mVar 6) (mC (.int 2)))) (ws.map Way.D) h = .ok ((ws.filter fun w => decide (w.s = v ∧ w.n = nm)).map fun w => .str w.t) h
  | [] => by
    rw [List.map_nil]
    unfold compL
    rw [if_pos hs]
    rfl
  | w :: ws => by
    rw [List.map_cons]
    unfold compL
    have v6 : ((wipeT t [6]).set 6 (some w.D))[6]? = some (some w.D) := List.getElem?_set_self (by simp [wipeT, tl])
    have v3 : ((wipeT t [6]).set 6 (some w.D))[3]? = some (some (.str v)) := by simp [wipeT, List.getElem?_set_ne, t3]
    have v4 : ((wipeT t [6]).set 6 (some w.D))[4]? = some (some (.str nm)) := by simp [wipeT, List.getElem?_set_ne, t4]
    have est : stepC c (wipeT t [6]) (.nm 6) laK (mOp dIx (mVar 6) (mC (.int 2))) w.D h = .ok (if w.s = v ∧ w.n = nm then some (.str w.t) else none) h := by
      unfold stepC asg laK
      simp only [tAnd_ev, tCmp_ev, mOp_ev, mVar_ev, v6, v3, v4, mC_ev, bind_ok, w1, w0, w2, eq_w, dBl_ev]
      by_cases h1 : w.s = v <;> by_cases h2 : w.n = nm <;> simp [h1, h2, noX, w2]
    rw [if_pos hs, est, bind_ok, la_comp hs tl t3 t4 ws, bind_ok]
    by_cases q : w.s = v ∧ w.n = nm <;> simp [q, List.filter_cons]
theorem c_lalong {n : Nat} (hn : 1 ≤ n) {f : Flow} (o : f.ok) (x : List Nat) (ns : List (List Nat)) (h : Hd) : callN T n 25 [f.D, .str x, .tup (ns.map D.str)] h = .ok (soD (along f x ns)) h := by
  obtain ⟨m, rfl⟩ := lvl hn
  rw [call_at (F := ⟨3, 7, b__law_along⟩) rfl]
  generalize callN T m = c
  have ea : ([f.D, .str x, .tup (ns.map D.str)].map some ++ List.replicate (7 - 3) (none : Option Ev.D)) = [some f.D, some (.str x), some (.tup (ns.map D.str)), none, none, none, none] := rfl
  rw [runFn_at (np := 3) (nn := 7) rfl ea]
  have hb : b__law_along = sSeq (sSet 3 (mVar 1)) (sSeq (sFor (iVal (mVar 2)) (.nm 4) (sSeq (sSet 5 (mComp false (iVal (mOp dIx (mVar 0) (mC (.int 2)))) (.nm 6) [6] laK (mOp dIx (mVar 6) (mC (.int 2))))) (sSeq (sIf (tCmp (mOp (dEq false) (mB gLen (aCons (mVar 5) aNil)) (mC (.int 0)))) (sRet (mC .non)) sNil) (sSet 3 (mOp dIx (mVar 5) (mC (.int 0))))))) (sRet (mVar 3))) := rfl
  have s1 : sSet 3 (mVar 1) c [some f.D, some (.str x), some (.tup (ns.map D.str)), none, none, none, none] h = .nx [some f.D, some (.str x), some (.tup (ns.map D.str)), some (.str x), none, none, none] h := by simp
  have key := sFor_gen (it := iVal (mVar 2)) (c := c) (t := [some f.D, some (.str x), some (.tup (ns.map D.str)), some (.str x), none, none, none]) (h := h) (h1 := h) (s := ⟨ns.map D.str, none⟩) (b := (sSeq (sSet 5 (mComp false (iVal (mOp dIx (mVar 0) (mC (.int 2)))) (.nm 6) [6] laK (mOp dIx (mVar 6) (mC (.int 2))))) (sSeq (sIf (tCmp (mOp (dEq false) (mB gLen (aCons (mVar 5) aNil)) (mC (.int 0)))) (sRet (mC .non)) sNil) (sSet 3 (mOp dIx (mVar 5) (mC (.int 0))))))) (g := .nm 4)
    (I := fun ds t h' => ∃ (todo : List (List Nat)) (v : List Nat) (x4 x5 : Option Ev.D), ds = todo.map D.str ∧ t = [some f.D, some (.str x), some (.tup (ns.map D.str)), some (.str v), x4, x5, none] ∧ h' = h ∧ along f v todo = along f x ns)
    (O := fun y => (∃ v x4 x5, y = .nx [some f.D, some (.str x), some (.tup (ns.map D.str)), some (.str v), x4, x5, none] h ∧ along f x ns = some v) ∨ (y = .rt .non h ∧ along f x ns = none)) (by simp [dIter])
    (by
      rintro d ds t h' ⟨todo, v, x4, x5, hd, rfl, rfl, ea⟩
      cases todo with
      | nil => simp at hd
      | cons nm todo =>
        rw [List.map_cons] at hd
        obtain ⟨rfl, rfl⟩ := List.cons.inj hd
        refine ⟨trivial, [some f.D, some (.str x), some (.tup (ns.map D.str)), some (.str v), some (.str nm), x5, none], rfl, ?_⟩
        obtain ⟨L, hL⟩ : ∃ L, L = f.ws.filter fun w => decide (w.s = v ∧ w.n = nm) := ⟨_, rfl⟩
        have nh : named f v nm = L.head? := by rw [hL]; exact named_head f v nm f.ws
        have Ll : L.length ≤ 16 := by rw [hL]; exact Nat.le_trans (List.length_filter_le _ _) o.w16
        have ec := la_comp (c := c) (t := [some f.D, some (.str x), some (.tup (ns.map D.str)), some (.str v), some (.str nm), x5, none]) (h := h') (v := v) (nm := nm) (src := ⟨f.ws.map Way.D, none⟩) trivial rfl rfl rfl f.ws
        rw [← hL] at ec
        have em : mComp false (iVal (mOp dIx (mVar 0) (mC (.int 2)))) (.nm 6) [6] laK (mOp dIx (mVar 6) (mC (.int 2))) c [some f.D, some (.str x), some (.tup (ns.map D.str)), some (.str v), some (.str nm), x5, none] h' = .ok (.lst (L.map fun w => .str w.t)) h' := by
          have ei : iVal (mOp dIx (mVar 0) (mC (.int 2))) c [some f.D, some (.str x), some (.tup (ns.map D.str)), some (.str v), some (.str nm), x5, none] h' = .ok ⟨f.ws.map Way.D, none⟩ h' := by simp [f2, dIter]
          unfold mComp
          rw [ei, bind_ok, ec, bind_ok]
          exact freshF _ (by rw [List.length_map]; omega)
        have e5 : sSet 5 (mComp false (iVal (mOp dIx (mVar 0) (mC (.int 2)))) (.nm 6) [6] laK (mOp dIx (mVar 6) (mC (.int 2)))) c [some f.D, some (.str x), some (.tup (ns.map D.str)), some (.str v), some (.str nm), x5, none] h' = .nx [some f.D, some (.str x), some (.tup (ns.map D.str)), some (.str v), some (.str nm), some (.lst (L.map fun w => .str w.t)), none] h' := by
          rw [sSet_ev, em, toS_ok]; rfl
        rw [sSeq_ev, e5, seq_nx, sSeq_ev, sIf_ev]
        cases L with
        | nil =>
          have tt : tCmp (mOp (dEq false) (mB gLen (aCons (mVar 5) aNil)) (mC (.int 0))) c [some f.D, some (.str x), some (.tup (ns.map D.str)), some (.str v), some (.str nm), some (.lst (([] : List Way).map fun w => .str w.t)), none] h' = .ok true h' := by
            simp [gLen, D.dict?, D.see, dEq, cmpOk, D.plain, near, D.dep]
          rw [tt, toS_ok, if_pos rfl]
          refine .rt (.inr ⟨rfl, ?_⟩)
          rw [← ea]
          simp only [along, nh, List.head?_nil]
        | cons w L =>
          have tt : tCmp (mOp (dEq false) (mB gLen (aCons (mVar 5) aNil)) (mC (.int 0))) c [some f.D, some (.str x), some (.tup (ns.map D.str)), some (.str v), some (.str nm), some (.lst ((w :: L).map fun w => .str w.t)), none] h' = .ok false h' := by
            simp [gLen, D.dict?, D.see, dEq, cmpOk, D.plain, near, D.dep]
            omega
          rw [tt, toS_ok, if_neg (by decide), sNil_ev, seq_nx]
          have e3 : sSet 3 (mOp dIx (mVar 5) (mC (.int 0))) c [some f.D, some (.str x), some (.tup (ns.map D.str)), some (.str v), some (.str nm), some (.lst ((w :: L).map fun w => .str w.t)), none] h' = .nx [some f.D, some (.str x), some (.tup (ns.map D.str)), some (.str w.t), some (.str nm), some (.lst ((w :: L).map fun w => .str w.t)), none] h' := by
            have : dIx (.lst ((w :: L).map fun w => .str w.t)) (.int 0) h' = .ok (.str w.t) h' := by
              simp only [dIx, dIxS, D.dict?, D.see, ixI, List.map_cons]
              simp
            simp only [sSet_ev, mOp_ev, mVar_ev, List.getElem?_cons_succ, List.getElem?_cons_zero, bind_ok, mC_ev, this, toS_ok, List.set_cons_succ, List.set_cons_zero]
          rw [e3]
          refine .nx ⟨todo, w.t, _, _, rfl, rfl, rfl, ?_⟩
          rw [← ea]
          simp only [along, nh, List.head?_cons])
    (by
      rintro t h' ⟨todo, v, x4, x5, hd, rfl, rfl, ea⟩
      cases todo with
      | cons w todo => simp at hd
      | nil => exact ⟨trivial, .inl ⟨v, x4, x5, rfl, ea.symm⟩⟩)
    ⟨ns, x, none, none, rfl, rfl, rfl, rfl⟩
  rcases key with ⟨v, x4, x5, e, en⟩ | ⟨e, en⟩
  · rw [hb, sSeq_ev, s1, seq_nx, sSeq_ev, e, seq_nx, en]
    exact fin1_same (hd := lo_str _ _)
  · rw [hb, sSeq_ev, s1, seq_nx, sSeq_ev, e, en]
    exact fin1_same (hd := lo_non _)
end K04

namespace K04
open PySem L2 Ev
/-! ### numbers of walks -/
def sel (b : Bool) (w : Way) : List Nat := match b with | true => w.t | false => w.s
def ix (b : Bool) : Int := match b with | true => 2 | false => 1
theorem wsel (b : Bool) (w : Way) (h : Hd) : dIx w.D (.int (ix b)) h = .ok (.str (sel b w)) h := by
  cases b
  · exact w1 w h
  · exact w2 w h
/-- the dict es tells the numbers g -/
structure Num (es : List (Ev.D × Ev.D)) (g : List Nat → Int) : Prop where
  num : ∀ x, (getD es (.str x) = none ∧ g x = 0) ∨ getD es (.str x) = some (.int (g x))
def addW (b : Bool) (g : List Nat → Int) (a : List Nat → Int) (w : Way) : List Nat → Int := fun x => if sel (!b) w = x then a x + g (sel b w) else a x
abbrev cwIn (b : Bool) : MS := (sIf (tCmp (mOp (dIn false) (mOp dIx (mVar 7) (mC (.int (ix b)))) (mVar 4)))
  (sPut (mVar 6) (mOp dIx (mVar 7) (mC (.int (ix (!b))))) (mOp (dAdd false) (mMt kGet (mVar 6) (aCons (mOp dIx (mVar 7) (mC (.int (ix (!b))))) (aCons (mC (.int 0)) aNil))) (mOp dIx (mVar 4) (mOp dIx (mVar 7) (mC (.int (ix b)))))))
  sNil)
theorem ix_dict {x : List Nat} {es : List (Ev.D × Ev.D)} {h : Hd} {K : Nat} {d : Ev.D} (e : h[K]? = some (.dict es)) (g : getD es (.str x) = some d) : dIx (.ref K) (.str x) h = .ok d h := by
  have e1 : D.dict? h (.ref K) = some es := by simp [D.dict?, e]
  unfold dIx
  simp only [e1]
  simp [keyOk, g]
theorem get2_dict {es : List (Ev.D × Ev.D)} {h : Hd} {K : Nat} (e : h[K]? = some (.dict es)) {cl : Calls} {t : Tau} {mo ma mb : M} {k : List Nat} {z : Ev.D} (eo : mo cl t h = .ok (.ref K) h) (ea : ma cl t h = .ok (.str k) h) (eb : mb cl t h = .ok z h) : mMt kGet mo (aCons ma (aCons mb aNil)) cl t h = .ok ((getD es (.str k)).getD z) h := by
  rw [mMt_ev, eo, bind_ok]
  have e1 : kindOf (.ref K) h = some .dict := by simp [kindOf, e]
  have e2 : kGet .dict = some fGet := rfl
  simp only [e1, e2, aCons_ev, ea, eb, bind_ok, aNil_ev]
  unfold fGet
  have e3 : D.dict? h (.ref K) = some es := by simp [D.dict?, e]
  simp only [e3]
  rw [if_pos (show keyOk (.str k) = true from rfl)]
theorem cw_in {b : Bool} {c : Calls} {h1 : Hd} {p : Nat} {es es' : List (Ev.D × Ev.D)} {g a : List Nat → Int} {w : Way} {x0 x1 x2 x3 x5 : Option Ev.D} (hp : h1[p]? = some (.dict es)) (ng : Num es g) (na : Num es' a) (hz : es'.length ≤ 1000) :
    ∃ es2, cwIn b c [x0, x1, x2, x3, some (.ref p), x5, some (.ref h1.length), some w.D] (h1 ++ [.dict es']) = .nx [x0, x1, x2, x3, some (.ref p), x5, some (.ref h1.length), some w.D] (h1 ++ [.dict es2]) ∧ Num es2 (addW b g a w) ∧ es2.length ≤ es'.length + 1 := by
  have hpl := (List.getElem?_eq_some_iff.mp hp).1
  have hp' : (h1 ++ [O.dict es'])[p]? = some (.dict es) := by rw [List.getElem?_append_left hpl]; exact hp
  have i1 := in_dict (n := false) (x := sel b w) hp'
  have e1 : tCmp (mOp (dIn false) (mOp dIx (mVar 7) (mC (.int (ix b)))) (mVar 4)) c [x0, x1, x2, x3, some (.ref p), x5, some (.ref h1.length), some w.D] (h1 ++ [.dict es']) = .ok (getD es (.str (sel b w))).isSome (h1 ++ [.dict es']) := by
    simp only [tCmp_ev, mOp_ev, mVar_ev, List.getElem?_cons_succ, List.getElem?_cons_zero, bind_ok, mC_ev, wsel, i1, Bool.false_bne, dBl_ev]
  unfold cwIn
  rw [sIf_ev, e1, toS_ok]
  rcases ng.num (sel b w) with ⟨q, q0⟩ | q
  · rw [q, if_neg (by simp)]
    refine ⟨es', rfl, ⟨fun x => ?_⟩, by omega⟩
    have : addW b g a w x = a x := by unfold addW; split <;> simp [q0]
    rw [this]
    exact na.num x
  · rw [q, if_pos (by simp)]
    have gk : (getD es' (.str (sel (!b) w))).getD (.int 0) = .int (a (sel (!b) w)) := by
      rcases na.num (sel (!b) w) with ⟨r, r0⟩ | r
      · rw [r, r0]; rfl
      · rw [r]; rfl
    have eg := get2_dict (h := h1 ++ [.dict es']) (K := h1.length) (get_last h1 (.dict es')) (cl := c) (t := [x0, x1, x2, x3, some (.ref p), x5, some (.ref h1.length), some w.D]) (mo := mVar 6) (ma := mOp dIx (mVar 7) (mC (.int (ix (!b))))) (mb := mC (.int 0)) (k := sel (!b) w) (z := .int 0) rfl (by simp only [mOp_ev, mVar_ev, List.getElem?_cons_succ, List.getElem?_cons_zero, bind_ok, mC_ev, wsel]) rfl
    rw [gk] at eg
    have ed := ix_dict hp' q
    have ev : mOp (dAdd false) (mMt kGet (mVar 6) (aCons (mOp dIx (mVar 7) (mC (.int (ix (!b))))) (aCons (mC (.int 0)) aNil))) (mOp dIx (mVar 4) (mOp dIx (mVar 7) (mC (.int (ix b))))) c [x0, x1, x2, x3, some (.ref p), x5, some (.ref h1.length), some w.D] (h1 ++ [.dict es']) = .ok (.int (a (sel (!b) w) + g (sel b w))) (h1 ++ [.dict es']) := by
      rw [mOp_ev, eg]
      simp only [bind_ok, mOp_ev, mVar_ev, List.getElem?_cons_succ, List.getElem?_cons_zero, mC_ev, wsel, ed]
      rfl
    have pt := put_at (c := c) (t := [x0, x1, x2, x3, some (.ref p), x5, some (.ref h1.length), some w.D]) (h := h1 ++ [.dict es']) (i := 6) (K := h1.length) (mk := mOp dIx (mVar 7) (mC (.int (ix (!b))))) (k := sel (!b) w) rfl (get_last h1 _) (by simp only [mOp_ev, mVar_ev, List.getElem?_cons_succ, List.getElem?_cons_zero, bind_ok, mC_ev, wsel]) ev (by omega)
    rw [set_last] at pt
    refine ⟨_, pt, ⟨fun x => ?_⟩, putD_len _ _ _⟩
    rw [getD_putS]
    unfold addW
    by_cases r : sel (!b) w = x
    · subst r
      rw [if_pos rfl, if_pos rfl]
      exact .inr rfl
    · rw [if_neg r, if_neg r]
      exact na.num x
/-- one round -/
def rnd (b : Bool) (f : Flow) (g : List Nat → Int) : List Nat → Int := f.ws.foldl (addW b g) fun _ => 0
theorem cw_for {b : Bool} {f : Flow} (o : f.ok) {c : Calls} {h1 : Hd} {p : Nat} {es : List (Ev.D × Ev.D)} {g : List Nat → Int} {x1 x2 x3 x5 x7 : Option Ev.D} (hp : h1[p]? = some (.dict es)) (ng : Num es g) :
    ∃ es2 y7, sFor (iVal (mOp dIx (mVar 0) (mC (.int 2)))) (.nm 7) (cwIn b) c [some f.D, x1, x2, x3, some (.ref p), x5, some (.ref h1.length), x7] (h1 ++ [.dict []]) = .nx [some f.D, x1, x2, x3, some (.ref p), x5, some (.ref h1.length), y7] (h1 ++ [.dict es2]) ∧ Num es2 (rnd b f g) := by
  have ei : iVal (mOp dIx (mVar 0) (mC (.int 2))) c [some f.D, x1, x2, x3, some (.ref p), x5, some (.ref h1.length), x7] (h1 ++ [.dict []]) = .ok ⟨f.ws.map Way.D, none⟩ (h1 ++ [.dict []]) := by
    simp [f2, dIter]
  have ol := o.w16
  refine sFor_gen (b := cwIn b) (g := .nm 7) (I := fun ds t h' => ∃ (todo : List Way) (es' : List (Ev.D × Ev.D)) (a : List Nat → Int) (x7 : Option Ev.D), ds = todo.map Way.D ∧ t = [some f.D, x1, x2, x3, some (.ref p), x5, some (.ref h1.length), x7] ∧ h' = h1 ++ [.dict es'] ∧ Num es' a ∧ todo.foldl (addW b g) a = rnd b f g ∧ es'.length + todo.length ≤ 100)
    (O := fun z => ∃ es2 y7, z = .nx [some f.D, x1, x2, x3, some (.ref p), x5, some (.ref h1.length), y7] (h1 ++ [.dict es2]) ∧ Num es2 (rnd b f g)) ei ?_ ?_ ?_
  · rintro d ds t h' ⟨todo, es', a, x7, hd, rfl, rfl, na, ef, hz⟩
    cases todo with
    | nil => simp at hd
    | cons w todo =>
      rw [List.map_cons] at hd
      obtain ⟨rfl, rfl⟩ := List.cons.inj hd
      rw [List.length_cons] at hz
      obtain ⟨es2, e, n2, l2⟩ := cw_in (b := b) (c := c) (x0 := some f.D) (x1 := x1) (x2 := x2) (x3 := x3) (x5 := x5) (w := w) hp ng na (by omega)
      refine ⟨trivial, [some f.D, x1, x2, x3, some (.ref p), x5, some (.ref h1.length), some w.D], rfl, ?_⟩
      rw [e]
      exact .nx ⟨todo, es2, _, some w.D, rfl, rfl, rfl, n2, by rw [← ef]; rfl, by omega⟩
  · rintro t h' ⟨todo, es', a, x7, hd, rfl, rfl, na, ef, hz⟩
    cases todo with
    | cons w todo => simp at hd
    | nil =>
      have ef : a = rnd b f g := ef
      exact ⟨trivial, es', x7, rfl, ef ▸ na⟩
  · exact ⟨f.ws, [], fun _ => 0, x7, rfl, rfl, rfl, ⟨fun x => .inl ⟨rfl, rfl⟩⟩, rfl, by simp; omega⟩
def del (u : List Nat) : List Nat → Int := fun x => if u = x then 1 else 0
def rounds (b : Bool) (f : Flow) (g : List Nat → Int) : Nat → List Nat → Int
  | 0 => g
  | n + 1 => rnd b f (rounds b f g n)
noncomputable abbrev cwBody (b : Bool) : MS := (sSeq (sSet 6 mDict0) (sSeq (sFor (iVal (mOp dIx (mVar 0) (mC (.int 2)))) (.nm 7) (cwIn b)) (sSet 4 (mVar 6))))
theorem cw_rounds {b : Bool} {f : Flow} (o : f.ok) {c : Calls} {h : Hd} {u : List Nat} {n : Nat} {z : Int} (hz : z = (n : Int)) (hn : n ≤ 30) {x1 x2 : Option Ev.D} :
    ∃ p l es y5 y6 y7, sFor (iRng1 (mVar 3)) (.nm 5) (cwBody b) c [some f.D, x1, x2, some (.int z), some (.ref h.length), none, none, none] (h ++ [.dict [(.str u, .int 1)]]) = .nx [some f.D, x1, x2, some (.int z), some (.ref p), y5, y6, y7] (h ++ l) ∧ (h ++ l)[p]? = some (.dict es) ∧ Num es (rounds b f (del u) n) := by
  have ei : iRng1 (mVar 3) c [some f.D, x1, x2, some (.int z), some (.ref h.length), none, none, none] (h ++ [.dict [(.str u, .int 1)]]) = .ok ⟨rngD 0 n, none⟩ (h ++ [.dict [(.str u, .int 1)]]) := by
    simp only [iRng1_ev, mVar_ev, List.getElem?_cons_succ, List.getElem?_cons_zero, bind_ok]
    rw [dRng1_ok _ (by omega) (by omega), show z.toNat = n by omega]
  refine sFor_gen (b := cwBody b) (g := .nm 5) (I := fun ds t h' => ∃ (s m : Nat) (p : Nat) (l : Hd) (es : List (Ev.D × Ev.D)) (x5 x6 x7 : Option Ev.D), ds = (List.range' s m).map (fun (k : Nat) => D.int (k : Int)) ∧ s + m = n ∧ t = [some f.D, x1, x2, some (.int z), some (.ref p), x5, x6, x7] ∧ h' = h ++ l ∧ (h ++ l)[p]? = some (.dict es) ∧ Num es (rounds b f (del u) s))
    (O := fun zz => ∃ p l es y5 y6 y7, zz = .nx [some f.D, x1, x2, some (.int z), some (.ref p), y5, y6, y7] (h ++ l) ∧ (h ++ l)[p]? = some (.dict es) ∧ Num es (rounds b f (del u) n)) ei ?_ ?_ ?_
  · rintro d ds t h' ⟨s, m, p, l, es, x5, x6, x7, hd, hsm, rfl, rfl, hp, ng⟩
    cases m with
    | zero => simp at hd
    | succ m =>
      rw [List.range'_succ, List.map_cons] at hd
      obtain ⟨rfl, rfl⟩ := List.cons.inj hd
      refine ⟨trivial, [some f.D, x1, x2, some (.int z), some (.ref p), some (.int (s : Int)), x6, x7], rfl, ?_⟩
      have s6 : sSet 6 mDict0 c [some f.D, x1, x2, some (.int z), some (.ref p), some (.int (s : Int)), x6, x7] (h ++ l) = .nx [some f.D, x1, x2, some (.int z), some (.ref p), some (.int (s : Int)), some (.ref (h ++ l).length), x7] ((h ++ l) ++ [.dict []]) := by
        rw [sSet_ev]; rfl
      obtain ⟨es2, y7, e, n2⟩ := cw_for (b := b) (c := c) (x1 := x1) (x2 := x2) (x3 := some (.int z)) (x5 := some (.int (s : Int))) (x7 := x7) o hp ng
      unfold cwBody
      rw [sSeq_ev, s6, seq_nx, sSeq_ev, e, seq_nx]
      have s4 : sSet 4 (mVar 6) c [some f.D, x1, x2, some (.int z), some (.ref p), some (.int (s : Int)), some (.ref (h ++ l).length), y7] ((h ++ l) ++ [.dict es2]) = .nx [some f.D, x1, x2, some (.int z), some (.ref (h ++ l).length), some (.int (s : Int)), some (.ref (h ++ l).length), y7] ((h ++ l) ++ [.dict es2]) := rfl
      rw [s4]
      exact .nx ⟨s + 1, m, (h ++ l).length, l ++ [.dict es2], es2, _, _, _, rfl, by omega, rfl, by rw [List.append_assoc], by rw [← List.append_assoc]; exact get_last _ _, n2⟩
  · rintro t h' ⟨s, m, p, l, es, x5, x6, x7, hd, hsm, rfl, rfl, hp, ng⟩
    cases m with
    | succ m => simp [List.range'_succ] at hd
    | zero =>
      have : s = n := by omega
      subst this
      exact ⟨trivial, p, l, es, x5, x6, x7, rfl, hp, ng⟩
  · refine ⟨0, n, h.length, [.dict [(.str u, .int 1)]], [(.str u, .int 1)], none, none, none, ?_, by omega, rfl, rfl, get_last _ _, ⟨fun x => ?_⟩⟩
    · rw [rngD_eq, List.range_eq_range']
    · unfold getD rounds del
      rw [List.find?_cons]
      simp only [eqv_str]
      by_cases q : u = x
      · subst q; simp
      · have : (u == x) = false := by simpa using q
        simp [this, q]
end K04

namespace K04
open PySem L2 Ev
/-! ### forwards as many walks as backwards -/
def sm {α : Type} (xs : List α) (F : α → Int) : Int := (xs.map F).sum
theorem sm_congr {α : Type} {xs : List α} {F G : α → Int} (h : ∀ x, F x = G x) : sm xs F = sm xs G := by
  rw [show F = G from funext h]
theorem sm_nil {α : Type} (F : α → Int) : sm [] F = 0 := rfl
theorem sm_cons {α : Type} (x : α) (xs : List α) (F : α → Int) : sm (x :: xs) F = F x + sm xs F := by simp [sm]
theorem sm_zero {α : Type} (xs : List α) : sm xs (fun _ => 0) = 0 := by
  induction xs with
  | nil => rfl
  | cons x xs ih => rw [sm_cons, ih]; rfl
theorem sm_add {α : Type} (xs : List α) (F G : α → Int) : sm xs (fun x => F x + G x) = sm xs F + sm xs G := by
  induction xs with
  | nil => rfl
  | cons x xs ih => rw [sm_cons, sm_cons, sm_cons, ih]; omega
theorem sm_swap {α β : Type} (ys : List β) (F : α → β → Int) : ∀ xs : List α, sm xs (fun x => sm ys (F x)) = sm ys fun y => sm xs fun x => F x y
  | [] => by simp only [sm_nil]; exact (sm_zero ys).symm
  | x :: xs => by
    rw [sm_cons, sm_swap ys F xs, ← sm_add]
    exact sm_congr fun y => (sm_cons x xs fun x => F x y).symm
theorem sm_if {α : Type} (p : Prop) [Decidable p] (xs : List α) (F : α → Int) : (if p then sm xs F else 0) = sm xs fun x => if p then F x else 0 := by
  by_cases q : p
  · simp [q]
  · simp only [q, if_false]; exact (sm_zero xs).symm
theorem rnd_sum (b : Bool) (f : Flow) (g : List Nat → Int) (x : List Nat) : rnd b f g x = sm f.ws fun w => if sel (!b) w = x then g (sel b w) else 0 := by
  have key : ∀ (ws : List Way) (a : List Nat → Int), ws.foldl (addW b g) a x = a x + sm ws fun w => if sel (!b) w = x then g (sel b w) else 0 := by
    intro ws
    induction ws with
    | nil => intro a; rw [sm_nil]; simp
    | cons w ws ih =>
      intro a
      rw [List.foldl_cons, ih, sm_cons]
      unfold addW
      split <;> omega
  unfold rnd
  rw [key]
  omega
def Wk (f : Flow) (n : Nat) (u v : List Nat) : Int := rounds false f (del u) n v
theorem Wk_succ (f : Flow) (n : Nat) (u v : List Nat) : Wk f (n + 1) u v = sm f.ws fun w => if w.t = v then Wk f n u w.s else 0 := rnd_sum false f _ v
theorem Wk_first (f : Flow) : ∀ (n : Nat) (u v : List Nat), Wk f (n + 1) u v = sm f.ws fun w => if w.s = u then Wk f n w.t v else 0
  | 0, u, v => by
    rw [Wk_succ]
    refine sm_congr fun w => ?_
    show (if w.t = v then del u w.s else 0) = if w.s = u then del w.t v else 0
    unfold del
    by_cases h1 : w.t = v <;> by_cases h2 : w.s = u <;> simp [h1, h2, eq_comm]
    intro h; exact h2 h.symm
  | n + 1, u, v => by
    rw [Wk_succ]
    have e1 : (sm f.ws fun w => if w.t = v then Wk f (n + 1) u w.s else 0) = sm f.ws fun w => sm f.ws fun w' => if w.t = v then (if w'.s = u then Wk f n w'.t w.s else 0) else 0 := by
      refine sm_congr fun w => ?_
      rw [Wk_first f n u w.s, sm_if]
    have e2 : (sm f.ws fun w' => if w'.s = u then Wk f (n + 1) w'.t v else 0) = sm f.ws fun w' => sm f.ws fun w => if w.t = v then (if w'.s = u then Wk f n w'.t w.s else 0) else 0 := by
      refine sm_congr fun w' => ?_
      rw [Wk_succ, sm_if]
      refine sm_congr fun w => ?_
      by_cases h1 : w.t = v <;> by_cases h2 : w'.s = u <;> simp [h1, h2]
    rw [e1, e2, sm_swap]
theorem both_counts (f : Flow) : ∀ (n : Nat) (u v : List Nat), rounds true f (del v) n u = rounds false f (del u) n v
  | 0, u, v => by
    show del v u = del u v
    unfold del
    by_cases h : u = v <;> simp [h, eq_comm]
  | n + 1, u, v => by
    have e1 : rounds true f (del v) (n + 1) u = sm f.ws fun w => if w.s = u then rounds true f (del v) n w.t else 0 := rnd_sum true f _ u
    rw [e1]
    have e2 := Wk_first f n u v
    unfold Wk at e2
    rw [e2]
    refine sm_congr fun w => ?_
    rw [both_counts f n w.t v]
end K04

namespace K04
open PySem L2 Ev
theorem c_whole {n : Nat} (hn : 1 ≤ n) (z : Int) (h : Hd) : callN T n 0 [.int z] h = .ok (.bl true) h := by
  obtain ⟨m, rfl⟩ := lvl hn
  rw [call_at (F := ⟨1, 1, b_is_whole⟩) rfl]
  simp [runFn, b_is_whole, dIs, tyOf, isTy, Ty.n, dNot, dTrue, D.see, fin1_same]
theorem c_between {n : Nat} (hn : 2 ≤ n) (z a b : Int) (h : Hd) : callN T n 1 [.int z, .int a, .int b] h = .ok (.bl (decide (a ≤ z ∧ z ≤ b))) h := by
  obtain ⟨m, rfl⟩ := lvl hn
  rw [call_at (F := ⟨3, 3, b_is_between⟩) rfl]
  have e := c_whole (n := m + 1) (by omega) z h
  generalize callN T (m + 1) = c at e
  by_cases h1 : a ≤ z <;> by_cases h2 : z ≤ b <;> simp [runFn, b_is_between, e, mChain, dCmp, dTrue, D.see, h1, h2, fin1_same]
abbrev wLen : List Nat := [108, 101, 110, 103, 116, 104]
theorem c_countX1 {n : Nat} (hn : 2 ≤ n) (f : Flow) {u : List Nat} (hu : u ∉ f.st) (v : List Nat) (z : Int) (h : Hd) : callN T n 11 [f.D, .str u, .str v, .int z] h = .exn 1 [.str u] h := by
  obtain ⟨m, rfl⟩ := lvl hn
  rw [call_at (F := ⟨4, 8, b_count_walks⟩) rfl]
  have e1 := c_requireX (n := m + 1) (by omega) f hu h
  generalize callN T (m + 1) = c at e1
  simp [runFn, b_count_walks, e1, finX]
theorem c_countX2 {n : Nat} (hn : 2 ≤ n) (f : Flow) {u v : List Nat} (hu : u ∈ f.st) (hv : v ∉ f.st) (z : Int) (h : Hd) : callN T n 11 [f.D, .str u, .str v, .int z] h = .exn 1 [.str v] h := by
  obtain ⟨m, rfl⟩ := lvl hn
  rw [call_at (F := ⟨4, 8, b_count_walks⟩) rfl]
  have e1 := c_require (n := m + 1) (by omega) f hu h
  have e2 := c_requireX (n := m + 1) (by omega) f hv h
  generalize callN T (m + 1) = c at e1 e2
  simp [runFn, b_count_walks, e1, e2, finX]
theorem get_num {es : List (Ev.D × Ev.D)} {g : List Nat → Int} (ng : Num es g) (x : List Nat) : (getD es (.str x)).getD (.int 0) = .int (g x) := by
  rcases ng.num x with ⟨r, r0⟩ | r
  · rw [r, r0]; rfl
  · rw [r]; rfl
theorem c_count {n : Nat} (hn : 3 ≤ n) {f : Flow} (o : f.ok) {u v : List Nat} (hu : u ∈ f.st) (hv : v ∈ f.st) (z : Int) (h : Hd) : callN T n 11 [f.D, .str u, .str v, .int z] h = if 0 ≤ z ∧ z ≤ 30 then .ok (.int (rounds false f (del u) z.toNat v)) h else .exn 0 [.str wLen] h := by
  obtain ⟨m, rfl⟩ := lvl hn
  rw [call_at (F := ⟨4, 8, b_count_walks⟩) rfl]
  have e1 := c_require (n := m + 2) (by omega) f hu h
  have e2 := c_require (n := m + 2) (by omega) f hv h
  have e3 := c_between (n := m + 2) (by omega) z 0 30 h
  generalize callN T (m + 2) = c at e1 e2 e3
  have ea : ([f.D, .str u, .str v, .int z].map some ++ List.replicate (8 - 4) (none : Option Ev.D)) = [some f.D, some (.str u), some (.str v), some (.int z), none, none, none, none] := rfl
  rw [runFn_at (np := 4) (nn := 8) rfl ea]
  have hb : b_count_walks = sSeq (sExpr (mCall 2 (aCons (mVar 0) (aCons (mVar 1) aNil)))) (sSeq (sExpr (mCall 2 (aCons (mVar 0) (aCons (mVar 2) aNil)))) (sSeq (sIf (tNot (tVal (mCall 1 (aCons (mVar 3) (aCons (mC (.int 0)) (aCons (mC k_MOST_LENGTH) aNil)))))) (sRaise 0 1 (aCons (mC (.str [108, 101, 110, 103, 116, 104])) aNil)) sNil)
    (sSeq (sSet 4 (mDict1 (mVar 1) (mC (.int 1)))) (sSeq (sFor (iRng1 (mVar 3)) (.nm 5) (cwBody false)) (sRet (mMt kGet (mVar 4) (aCons (mVar 2) (aCons (mC (.int 0)) aNil)))))))) := rfl
  have s0 : sExpr (mCall 2 (aCons (mVar 0) (aCons (mVar 1) aNil))) c [some f.D, some (.str u), some (.str v), some (.int z), none, none, none, none] h = .nx [some f.D, some (.str u), some (.str v), some (.int z), none, none, none, none] h := by simp [e1]
  have s1 : sExpr (mCall 2 (aCons (mVar 0) (aCons (mVar 2) aNil))) c [some f.D, some (.str u), some (.str v), some (.int z), none, none, none, none] h = .nx [some f.D, some (.str u), some (.str v), some (.int z), none, none, none, none] h := by simp [e2]
  have t2 : tNot (tVal (mCall 1 (aCons (mVar 3) (aCons (mC (.int 0)) (aCons (mC k_MOST_LENGTH) aNil))))) c [some f.D, some (.str u), some (.str v), some (.int z), none, none, none, none] h = .ok (!decide (0 ≤ z ∧ z ≤ 30)) h := by
    simp only [tNot_ev, tVal_ev, mCall_ev, aCons_ev, mVar_ev, List.getElem?_cons_succ, List.getElem?_cons_zero, bind_ok, mC_ev, aNil_ev, k_MOST_LENGTH, e3, dTrue, D.see]
  rw [hb, sSeq_ev, s0, seq_nx, sSeq_ev, s1, seq_nx, sSeq_ev, sIf_ev, t2, toS_ok]
  by_cases q : 0 ≤ z ∧ z ≤ 30
  · rw [if_pos q, decide_eq_true q, if_neg (by decide), sNil_ev, seq_nx]
    have s3 : sSet 4 (mDict1 (mVar 1) (mC (.int 1))) c [some f.D, some (.str u), some (.str v), some (.int z), none, none, none, none] h = .nx [some f.D, some (.str u), some (.str v), some (.int z), some (.ref h.length), none, none, none] (h ++ [.dict [(.str u, .int 1)]]) := by
      simp [dOne, keyOk]
    obtain ⟨p, l, es, y5, y6, y7, e, hp, ng⟩ := cw_rounds (b := false) (c := c) (h := h) (u := u) (n := z.toNat) (z := z) (x1 := some (.str u)) (x2 := some (.str v)) o (by omega) (by omega)
    have eg := get2_dict hp (cl := c) (t := [some f.D, some (.str u), some (.str v), some (.int z), some (.ref p), y5, y6, y7]) (mo := mVar 4) (ma := mVar 2) (mb := mC (.int 0)) (k := v) (z := .int 0) rfl rfl rfl
    rw [get_num ng] at eg
    rw [sSeq_ev, s3, seq_nx, sSeq_ev, e, seq_nx, sRet_ev, eg, toS_ok, fin_rt]
    exact fin1_app (lo_int _ _)
  · rw [if_neg q, decide_eq_false q, if_pos (by decide)]
    simp [sRaise, finX]
theorem c_lcounted {n : Nat} (hn : 1 ≤ n) {f : Flow} (o : f.ok) (u v : List Nat) (z : Int) (h0 : 0 ≤ z) (h1 : z ≤ 30) (h : Hd) : callN T n 22 [f.D, .str u, .str v, .int z] h = .ok (.int (rounds false f (del u) z.toNat v)) h := by
  obtain ⟨m, rfl⟩ := lvl hn
  rw [call_at (F := ⟨4, 8, b__law_counted⟩) rfl]
  generalize callN T m = c
  have ea : ([f.D, .str u, .str v, .int z].map some ++ List.replicate (8 - 4) (none : Option Ev.D)) = [some f.D, some (.str u), some (.str v), some (.int z), none, none, none, none] := rfl
  rw [runFn_at (np := 4) (nn := 8) rfl ea]
  have hb : b__law_counted = sSeq (sSet 4 (mDict1 (mVar 2) (mC (.int 1)))) (sSeq (sFor (iRng1 (mVar 3)) (.nm 5) (cwBody true)) (sRet (mMt kGet (mVar 4) (aCons (mVar 1) (aCons (mC (.int 0)) aNil))))) := rfl
  have s3 : sSet 4 (mDict1 (mVar 2) (mC (.int 1))) c [some f.D, some (.str u), some (.str v), some (.int z), none, none, none, none] h = .nx [some f.D, some (.str u), some (.str v), some (.int z), some (.ref h.length), none, none, none] (h ++ [.dict [(.str v, .int 1)]]) := by
    simp [dOne, keyOk]
  obtain ⟨p, l, es, y5, y6, y7, e, hp, ng⟩ := cw_rounds (b := true) (c := c) (h := h) (u := v) (n := z.toNat) (z := z) (x1 := some (.str u)) (x2 := some (.str v)) o (by omega) (by omega)
  have eg := get2_dict hp (cl := c) (t := [some f.D, some (.str u), some (.str v), some (.int z), some (.ref p), y5, y6, y7]) (mo := mVar 4) (ma := mVar 1) (mb := mC (.int 0)) (k := u) (z := .int 0) rfl rfl rfl
  rw [get_num ng, both_counts] at eg
  rw [hb, sSeq_ev, s3, seq_nx, sSeq_ev, e, seq_nx, sRet_ev, eg, toS_ok, fin_rt]
  exact fin1_app (lo_int _ _)
end K04

namespace K04
open PySem L2 Ev
/-! ### alike, through and through -/
mutual
def gd : Ev.D → Bool
  | .tup xs => decide (xs.length ≤ 1000) && gdA xs
  | .str _ => true
  | .int _ => true
  | .bl _ => true
  | .non => true
  | _ => false
def gdA : List Ev.D → Bool
  | [] => true
  | x :: xs => gd x && gdA xs
end
theorem gdA_get : ∀ {xs : List Ev.D} {k : Nat} {x : Ev.D}, gdA xs = true → xs[k]? = some x → gd x = true
  | [], _, _, _, e => by simp at e
  | y :: ys, 0, x, h, e => by
    simp only [gdA, Bool.and_eq_true] at h
    simp at e
    rw [← e]; exact h.1
  | y :: ys, k + 1, x, h, e => by
    simp only [gdA, Bool.and_eq_true] at h
    exact gdA_get h.2 (by simpa using e)
theorem bls_true : ∀ n : Nat, blsOf (List.replicate n (.bl true)) = some (List.replicate n true)
  | 0 => rfl
  | n + 1 => by simp [List.replicate_succ, blsOf, bls_true n]
theorem c_alike : ∀ (n : Nat) (x : Ev.D) (h : Hd), gd x = true → x.dep + 1 ≤ n → callN T n 18 [x, x] h = .ok (.bl true) h
  | 0, x, h, hg, hn => by omega
  | n + 1, x, h, hg, hn => by
    rw [call_at (F := ⟨2, 3, b__law_same⟩) rfl]
    cases x with
    | non =>
      generalize callN T n = c
      simp [runFn, b__law_same, dIsN, fin1_same]
    | bl b =>
      generalize callN T n = c
      simp [runFn, b__law_same, dIsN, dIs, tyOf, isTy, Ty.n, dTrue, D.see, dEq, cmpOk, D.plain, near, D.dep, fin1_same]
    | int b =>
      generalize callN T n = c
      simp [runFn, b__law_same, dIsN, dIs, tyOf, isTy, Ty.n, dTrue, D.see, dNot, dEq, cmpOk, D.plain, near, D.dep, fin1_same]
    | str b =>
      generalize callN T n = c
      simp [runFn, b__law_same, dIsN, dIs, tyOf, isTy, Ty.n, dTrue, D.see, dEq, cmpOk, D.plain, near, D.dep, fin1_same]
    | tup xs =>
      simp only [gd, Bool.and_eq_true, decide_eq_true_eq] at hg
      have hdp : D.depA xs + 1 + 1 ≤ n + 1 := by simpa [D.dep] using hn
      have ih : ∀ (k : Nat) (y : Ev.D), xs[k]? = some y → callN T n 18 [y, y] h = .ok (.bl true) h := fun k y e => by
        have hk := (List.getElem?_eq_some_iff.mp e).1
        have ey : xs[k] = y := by rw [List.getElem?_eq_getElem hk] at e; injection e
        have := depA_get xs hk
        rw [ey] at this
        exact c_alike n y h (gdA_get hg.2 e) (by omega)
      generalize callN T n = c at ih
      have ea : ([D.tup xs, .tup xs].map some ++ List.replicate (3 - 2) (none : Option Ev.D)) = [some (.tup xs), some (.tup xs), none] := rfl
      rw [runFn_at (np := 2) (nn := 3) rfl ea]
      obtain ⟨R, hR⟩ : ∃ R, b__law_same = sSeq (sIf (tCmp (mUn (dIsN false) (mVar 1))) (sRet (mUn (dIsN false) (mVar 0))) sNil) (sSeq (sIf (tVal (mUn (dIs .tuple) (mVar 1))) (sSeq (sIf (tOr (tNot (tVal (mUn (dIs .tuple) (mVar 0)))) (tCmp (mOp (dEq true) (mB gLen (aCons (mVar 0) aNil)) (mB gLen (aCons (mVar 1) aNil))))) (sRet (mC (.bl false))) sNil)
        (sRet (mB gEvery (aCons (mComp false (iRng1 (mB gLen (aCons (mVar 1) aNil))) (.nm 2) [2] tYesM (mCall 18 (aCons (mOp dIx (mVar 0) (mVar 2)) (aCons (mOp dIx (mVar 1) (mVar 2)) aNil)))) aNil)))) sNil) R) := ⟨_, rfl⟩
      have e1 : tCmp (mUn (dIsN false) (mVar 1)) c [some (.tup xs), some (.tup xs), none] h = .ok false h := by simp [dIsN]
      have e2 : tVal (mUn (dIs .tuple) (mVar 1)) c [some (.tup xs), some (.tup xs), none] h = .ok true h := by simp [dIs, tyOf, isTy, Ty.n, dTrue, D.see]
      have gl : gLen [.tup xs] h = .ok (.int (xs.length : Nat)) h := by simp [gLen, D.dict?, D.see]
      have dq : dEq true (.int (xs.length : Nat)) (.int (xs.length : Nat)) h = .ok (.bl false) h := by simp [dEq, cmpOk, D.plain, near, D.dep, D.see]
      have e3 : tOr (tNot (tVal (mUn (dIs .tuple) (mVar 0)))) (tCmp (mOp (dEq true) (mB gLen (aCons (mVar 0) aNil)) (mB gLen (aCons (mVar 1) aNil)))) c [some (.tup xs), some (.tup xs), none] h = .ok false h := by
        have a1 : tNot (tVal (mUn (dIs .tuple) (mVar 0))) c [some (.tup xs), some (.tup xs), none] h = .ok false h := by simp [dIs, tyOf, isTy, Ty.n, dTrue, D.see]
        have a2 : tCmp (mOp (dEq true) (mB gLen (aCons (mVar 0) aNil)) (mB gLen (aCons (mVar 1) aNil))) c [some (.tup xs), some (.tup xs), none] h = .ok false h := by
          simp only [tCmp_ev, mOp_ev, mB_ev, aCons_ev, mVar_ev, List.getElem?_cons_succ, List.getElem?_cons_zero, bind_ok, aNil_ev, gl, dq, dBl_ev]
        rw [tOr_ev, a1, bind_ok, if_neg (by decide), a2]
      obtain ⟨z, hz⟩ : ∃ z : Int, z = (xs.length : Nat) := ⟨_, rfl⟩
      have ei : iRng1 (mB gLen (aCons (mVar 1) aNil)) c [some (.tup xs), some (.tup xs), none] h = .ok ⟨rngD 0 xs.length, none⟩ h := by
        have g1 : mB gLen (aCons (mVar 1) aNil) c [some (.tup xs), some (.tup xs), none] h = .ok (.int z) h := by
          rw [hz]
          simp only [mB_ev, aCons_ev, mVar_ev, List.getElem?_cons_succ, List.getElem?_cons_zero, bind_ok, aNil_ev, gl]
        rw [iRng1_ev, g1, bind_ok, dRng1_ok _ (by omega) (by have := hg.1; omega), show z.toNat = xs.length by omega]
      have em : mComp false (iRng1 (mB gLen (aCons (mVar 1) aNil))) (.nm 2) [2] tYesM (mCall 18 (aCons (mOp dIx (mVar 0) (mVar 2)) (aCons (mOp dIx (mVar 1) (mVar 2)) aNil))) c [some (.tup xs), some (.tup xs), none] h = .ok (.lst (List.replicate xs.length (.bl true))) h := by
        unfold mComp
        rw [ei, bind_ok, comp_pure (s := ⟨rngD 0 xs.length, none⟩) trivial (f := fun _ => some (.bl true)) (rngD 0 xs.length) (by
          intro d hd
          rw [rngD_eq] at hd
          obtain ⟨k, hk, rfl⟩ := List.mem_map.mp hd
          have hk := List.mem_range.mp hk
          have ek : xs[k]? = some xs[k] := List.getElem?_eq_getElem hk
          have di := dIx_tup h ek
          have ck := ih k _ ek
          unfold stepC asg
          simp only [wipeT, List.set_cons_succ, List.set_cons_zero, tYes_ev, bind_ok, if_true, mCall_ev, aCons_ev, mOp_ev, mVar_ev, List.getElem?_cons_succ, List.getElem?_cons_zero, aNil_ev, di, ck]
          rfl), bind_ok]
        have : (rngD 0 xs.length).filterMap (fun _ => some (D.bl true)) = List.replicate xs.length (.bl true) := by
          rw [rngD_eq, List.filterMap_map]
          show (List.range xs.length).filterMap (fun _ => some (D.bl true)) = _
          have fm : ∀ l : List Nat, l.filterMap (fun _ => some (D.bl true)) = List.replicate l.length (.bl true) := fun l => by
            induction l with
            | nil => rfl
            | cons a l ih => simp [List.replicate_succ, ih]
          rw [fm, List.length_range]
        rw [this]
        exact freshF _ (by rw [List.length_replicate]; have := hg.1; omega)
      have ge : gEvery [.lst (List.replicate xs.length (.bl true))] h = .ok (.bl true) h := by
        simp only [gEvery, Ev.listOf, D.see, Option.bind_some, bls_true]
        simp
      rw [hR, sSeq_ev, sIf_ev, e1, toS_ok, if_neg (by decide), sNil_ev, seq_nx, sSeq_ev, sIf_ev, e2, toS_ok, if_pos rfl, sSeq_ev, sIf_ev, e3, toS_ok, if_neg (by decide), sNil_ev, seq_nx, sRet_ev, mB_ev, aCons_ev, em]
      simp only [bind_ok, aNil_ev, ge, toS_ok, seq_rt, fin_rt]
      exact fin1_same (hd := lo_bl _ _)
    | _ => simp [gd] at hg
end K04

namespace K04
open PySem L2 Ev
/-! ### strangers -/
theorem c_reachableX {n : Nat} (hn : 2 ≤ n) (f : Flow) {u : List Nat} (hu : u ∉ f.st) (h : Hd) : callN T n 5 [f.D, .str u] h = .exn 1 [.str u] h := by
  obtain ⟨m, rfl⟩ := lvl hn
  rw [call_at (F := ⟨2, 7, b_reachable⟩) rfl]
  have e1 := c_requireX (n := m + 1) (by omega) f hu h
  generalize callN T (m + 1) = c at e1
  simp [runFn, b_reachable, e1, finX]
theorem c_alongX {n : Nat} (hn : 2 ≤ n) (f : Flow) {u : List Nat} (hu : u ∉ f.st) (x : Ev.D) (h : Hd) : callN T n 9 [f.D, .str u, x] h = .exn 1 [.str u] h := by
  obtain ⟨m, rfl⟩ := lvl hn
  rw [call_at (F := ⟨3, 6, b_walk_along⟩) rfl]
  have e1 := c_requireX (n := m + 1) (by omega) f hu h
  generalize callN T (m + 1) = c at e1
  simp [runFn, b_walk_along, e1, finX]
theorem c_leastX {n : Nat} (hn : 2 ≤ n) (f : Flow) {u : List Nat} (hu : u ∉ f.st) (h : Hd) : callN T n 13 [f.D, .str u] h = .exn 1 [.str u] h := by
  obtain ⟨m, rfl⟩ := lvl hn
  rw [call_at (F := ⟨2, 6, b_least_days⟩) rfl]
  have e1 := c_requireX (n := m + 1) (by omega) f hu h
  generalize callN T (m + 1) = c at e1
  simp [runFn, b_least_days, e1, finX]
theorem c_shortX1 {n : Nat} (hn : 2 ≤ n) (f : Flow) {u : List Nat} (hu : u ∉ f.st) (v : List Nat) (h : Hd) : callN T n 10 [f.D, .str u, .str v] h = .exn 1 [.str u] h := by
  obtain ⟨m, rfl⟩ := lvl hn
  rw [call_at (F := ⟨3, 10, b_shortest_walk⟩) rfl]
  have e1 := c_requireX (n := m + 1) (by omega) f hu h
  generalize callN T (m + 1) = c at e1
  simp [runFn, b_shortest_walk, e1, finX]
theorem c_shortX2 {n : Nat} (hn : 2 ≤ n) (f : Flow) {u v : List Nat} (hu : u ∈ f.st) (hv : v ∉ f.st) (h : Hd) : callN T n 10 [f.D, .str u, .str v] h = .exn 1 [.str v] h := by
  obtain ⟨m, rfl⟩ := lvl hn
  rw [call_at (F := ⟨3, 10, b_shortest_walk⟩) rfl]
  have e1 := c_require (n := m + 1) (by omega) f hu h
  have e2 := c_requireX (n := m + 1) (by omega) f hv h
  generalize callN T (m + 1) = c at e1 e2
  simp [runFn, b_shortest_walk, e1, e2, finX]
end K04

namespace K04
open PySem L2 Ev
theorem dMul_r {m : Bool} {i j : Int} {h : Hd} (h1 : -1000000000 < j) (h2 : j < 1000000000) : dMul m (.int i) (.int j) h = .ok (.int (i * j)) h := by
  have e1 : -18446744073709551616 < j := by omega
  have e2 : j < 18446744073709551616 := by omega
  simp [dMul, e1, e2]
theorem ix_scr {ns : List Int} {k : Int} (h : Hd) (h0 : 0 ≤ k) (h1 : k < ns.length) : ∃ z, dIx (.scr (ns.map D.int)) (.int k) h = .ok (.int z) h := by
  have hk : k.toNat < ns.length := by omega
  refine ⟨ns[k.toNat], ?_⟩
  simp [dIx, dIxS, D.dict?, D.see, ixI, h0, h1, hk]
theorem c_cell {n : Nat} (hn : 1 ≤ n) (ns : List Int) (hl : ns.length ≤ 63) (k : Int) (h0 : 0 ≤ k) (h1 : k ≤ 10) (h : Hd) : ∃ z, callN T n 14 [.scr (ns.map D.int), .int k] h = .ok (.int z) h := by
  obtain ⟨m, rfl⟩ := lvl hn
  rw [call_at (F := ⟨2, 2, b__law_cell⟩) rfl]
  generalize callN T m = c
  obtain ⟨L, hL⟩ : ∃ L : Int, L = (ns.length : Nat) := ⟨_, rfl⟩
  have gl : gLen [.scr (ns.map D.int)] h = .ok (.int L) h := by rw [hL]; simp [gLen, D.dict?, D.see]
  have ea : ([D.scr (ns.map D.int), .int k].map some ++ List.replicate (2 - 2) (none : Option Ev.D)) = [some (.scr (ns.map D.int)), some (.int k)] := rfl
  rw [runFn_at (np := 2) (nn := 2) rfl ea]
  by_cases q1 : k < L
  · obtain ⟨z, e⟩ := ix_scr (ns := ns) h h0 (by omega)
    refine ⟨z, ?_⟩
    generalize D.scr (ns.map D.int) = sc at *
    simp [b__law_cell, gl, dCmp, q1, e, gInt, fin1_same]
  · by_cases q2 : L = 0
    · refine ⟨40009 * k + 11, ?_⟩
      have em := dMul_r (m := false) (i := 40009) (j := k) (h := h) (by omega) (by omega)
      generalize D.scr (ns.map D.int) = sc at *
      simp [b__law_cell, gl, dCmp, q1, q2, em, dAdd, dEq, cmpOk, D.plain, near, D.dep, D.see, fin1_same]
      have q1' : ¬ k < 0 := by omega
      simp [q1', fin1_same]
    · have Lp : 0 < L := by omega
      have m1 := Int.emod_nonneg k (show L ≠ 0 by omega)
      have m2 := Int.emod_lt_of_pos k Lp
      obtain ⟨z, e⟩ := ix_scr (ns := ns) h m1 (by omega)
      have e1 := dMul_r (m := false) (i := z) (j := 31) (h := h) (by omega) (by omega)
      have e2 := dMul_r (m := false) (i := 40009) (j := k) (h := h) (by omega) (by omega)
      refine ⟨(z * 31 + 40009 * k) % 1000003, ?_⟩
      generalize D.scr (ns.map D.int) = sc at *
      simp [b__law_cell, gl, dCmp, q1, q2, e, e1, e2, gInt, dMod, dAdd, dEq, cmpOk, D.plain, near, D.dep, D.see, fin1_same, Lp]
end K04

namespace K04
open PySem L2 Ev
inductive Fit : List Int → List Int → Prop
  | nil : Fit [] []
  | cons {d s : Int} {ds ss : List Int} : 0 ≤ d → d < s → Fit ds ss → Fit (d :: ds) (s :: ss)
theorem Fit.len {ds ss : List Int} (h : Fit ds ss) : ds.length = ss.length := by
  induction h with
  | nil => rfl
  | cons _ _ _ ih => simp [ih]
theorem Fit.snoc {ds ss : List Int} (h : Fit ds ss) {d s : Int} (h0 : 0 ≤ d) (h1 : d < s) : Fit (ds ++ [d]) (ss ++ [s]) := by
  induction h with
  | nil => exact .cons h0 h1 .nil
  | cons a b _ ih => exact .cons a b ih
theorem pow18 (h : Hd) : dPow (.int 10) (.int 18) h = .ok (.int 1000000000000000000) h := by simp [dPow]
abbrev dgBody : MS := (sIf (tCmp (mOp dLt (mVar 0) (mOp dPow (mC (.int 10)) (mC (.int 18)))))
  (sSeq (sSet 3 (mOp dMod (mB gInt (aCons (mOp (dAdd false) (mOp (dAdd false) (mOp (dMul false) (mVar 3) (mC (.int 48271))) (mC (.int 69621))) (mOp (dMul false) (mC (.int 7)) (mB gLen (aCons (mVar 2) aNil)))) aNil)) (mC (.int 2147483647))))
  (sExpr (mMt kAppend (mVar 2) (aCons (mOp dMod (mB gInt (aCons (mOp dDiv (mVar 3) (mC (.int 1009))) aNil)) (mVar 4)) aNil))))
  (sSeq (sExpr (mMt kAppend (mVar 2) (aCons (mOp dMod (mB gInt (aCons (mVar 3) aNil)) (mVar 4)) aNil)))
  (sSet 3 (mOp dDiv (mVar 3) (mVar 4)))))
theorem dg_step {c : Calls} {b : Hd} {cell num s : Int} {x1 : Option Ev.D} {fs : List Int} (hs : 0 < s) (hs2 : s < 1000000) (hz : fs.length ≤ 1000) :
    ∃ d num', 0 ≤ d ∧ d < s ∧ dgBody c [some (.int cell), x1, some (.ref b.length), some (.int num), some (.int s)] (b ++ [.lst (fs.map D.int)]) = .nx [some (.int cell), x1, some (.ref b.length), some (.int num'), some (.int s)] (b ++ [.lst ((fs ++ [d]).map D.int)]) := by
  have tt : ∀ (n : Int) h, tCmp (mOp dLt (mVar 0) (mOp dPow (mC (.int 10)) (mC (.int 18)))) c [some (.int cell), x1, some (.ref b.length), some (.int n), some (.int s)] h = .ok (decide (cell < 1000000000000000000)) h := fun n h => by
    simp [pow18, dCmp]
  have gl : gLen [.ref b.length] (b ++ [.lst (fs.map D.int)]) = .ok (.int (fs.length : Nat)) (b ++ [.lst (fs.map D.int)]) := by
    simp [gLen, D.dict?, D.see]
  obtain ⟨L, hL⟩ : ∃ L : Int, L = (fs.length : Nat) := ⟨_, rfl⟩
  rw [← hL] at gl
  have app : ∀ (n d : Int) (m : M), m c [some (.int cell), x1, some (.ref b.length), some (.int n), some (.int s)] (b ++ [.lst (fs.map D.int)]) = .ok (.int d) (b ++ [.lst (fs.map D.int)]) → sExpr (mMt kAppend (mVar 2) (aCons m aNil)) c [some (.int cell), x1, some (.ref b.length), some (.int n), some (.int s)] (b ++ [.lst (fs.map D.int)]) = .nx [some (.int cell), x1, some (.ref b.length), some (.int n), some (.int s)] (b ++ [.lst ((fs ++ [d]).map D.int)]) := fun n d m em => by
    have := append_at (c := c) (t := [some (.int cell), x1, some (.ref b.length), some (.int n), some (.int s)]) (h := b ++ [.lst (fs.map D.int)]) (i := 2) (L := b.length) (m := m) (d := .int d) (xs := fs.map D.int) (ys := fs.map D.int) rfl (get_last b _) em (get_last b _) (by rw [List.length_map]; omega)
    rw [this, set_last, List.map_append, List.map_singleton]
  unfold dgBody
  rw [sIf_ev, tt, toS_ok]
  by_cases q : cell < 1000000000000000000
  · rw [decide_eq_true q, if_pos rfl]
    obtain ⟨y, hy⟩ : ∃ y : Int, y = (num * 48271 + 69621 + 7 * L) % 2147483647 := ⟨_, rfl⟩
    have p1 := Int.emod_nonneg (y / 1009) (show s ≠ 0 by omega)
    have p2 := Int.emod_lt_of_pos (y / 1009) hs
    have m1 := fun h => dMul_r (m := false) (i := num) (j := 48271) (h := h) (by omega) (by omega)
    have m2 := fun h => dMul_r (m := false) (i := 7) (j := L) (h := h) (by omega) (by omega)
    have e1 : sSet 3 (mOp dMod (mB gInt (aCons (mOp (dAdd false) (mOp (dAdd false) (mOp (dMul false) (mVar 3) (mC (.int 48271))) (mC (.int 69621))) (mOp (dMul false) (mC (.int 7)) (mB gLen (aCons (mVar 2) aNil)))) aNil)) (mC (.int 2147483647))) c [some (.int cell), x1, some (.ref b.length), some (.int num), some (.int s)] (b ++ [.lst (fs.map D.int)]) = .nx [some (.int cell), x1, some (.ref b.length), some (.int y), some (.int s)] (b ++ [.lst (fs.map D.int)]) := by
      simp [m1, m2, gl, dAdd, gInt, dMod, ← hy]
    refine ⟨(y / 1009) % s, y, p1, p2, ?_⟩
    rw [sSeq_ev, e1, seq_nx]
    exact app y _ _ (by simp [dDiv, gInt, dMod, hs])
  · rw [decide_eq_false q, if_neg (by decide)]
    have p1 := Int.emod_nonneg num (show s ≠ 0 by omega)
    have p2 := Int.emod_lt_of_pos num hs
    refine ⟨num % s, num / s, p1, p2, ?_⟩
    rw [sSeq_ev, app num (num % s) _ (by simp [gInt, dMod, hs]), seq_nx]
    have s2 : s < 18446744073709551616 := by omega
    simp [dDiv, hs, s2]
theorem c_digits {n : Nat} (hn : 1 ≤ n) (cell : Int) (ss : List Int) (hs : ∀ s ∈ ss, 0 < s ∧ s < 1000000) (hl : ss.length ≤ 500) (h : Hd) :
    ∃ ds, callN T n 15 [.int cell, .lst (ss.map D.int)] h = .ok (.ref h.length) (h ++ [.lst (ds.map D.int)]) ∧ Fit ds ss := by
  obtain ⟨m, rfl⟩ := lvl hn
  rw [call_at (F := ⟨2, 5, b__law_digits⟩) rfl]
  generalize callN T m = c
  have ea : ([D.int cell, .lst (ss.map D.int)].map some ++ List.replicate (5 - 2) (none : Option Ev.D)) = [some (.int cell), some (.lst (ss.map D.int)), none, none, none] := rfl
  rw [runFn_at (np := 2) (nn := 5) rfl ea]
  have hb : b__law_digits = sSeq (sSet 2 (mLst true aNil)) (sSeq (sSet 3 (mVar 0)) (sSeq (sIf (tCmp (mOp dLt (mVar 0) (mOp dPow (mC (.int 10)) (mC (.int 18))))) (sSet 3 (mOp dMod (mB gInt (aCons (mVar 0) aNil)) (mC (.int 2147483647)))) sNil) (sSeq (sFor (iVal (mVar 1)) (.nm 4) dgBody) (sRet (mVar 2))))) := rfl
  have s1 : sSet 2 (mLst true aNil) c [some (.int cell), some (.lst (ss.map D.int)), none, none, none] h = .nx [some (.int cell), some (.lst (ss.map D.int)), some (.ref h.length), none, none] (h ++ [.lst []]) := by simp
  have s2 : sSet 3 (mVar 0) c [some (.int cell), some (.lst (ss.map D.int)), some (.ref h.length), none, none] (h ++ [.lst []]) = .nx [some (.int cell), some (.lst (ss.map D.int)), some (.ref h.length), some (.int cell), none] (h ++ [.lst []]) := by simp
  obtain ⟨num, s3⟩ : ∃ num : Int, sIf (tCmp (mOp dLt (mVar 0) (mOp dPow (mC (.int 10)) (mC (.int 18))))) (sSet 3 (mOp dMod (mB gInt (aCons (mVar 0) aNil)) (mC (.int 2147483647)))) sNil c [some (.int cell), some (.lst (ss.map D.int)), some (.ref h.length), some (.int cell), none] (h ++ [.lst []]) = .nx [some (.int cell), some (.lst (ss.map D.int)), some (.ref h.length), some (.int num), none] (h ++ [.lst []]) := by
    by_cases q : cell < 1000000000000000000
    · exact ⟨cell % 2147483647, by simp [pow18, dCmp, q, gInt, dMod]⟩
    · exact ⟨cell, by simp [pow18, dCmp, q]⟩
  have ei : iVal (mVar 1) c [some (.int cell), some (.lst (ss.map D.int)), some (.ref h.length), some (.int num), none] (h ++ [.lst []]) = .ok ⟨ss.map D.int, none⟩ (h ++ [.lst []]) := by simp [dIter]
  obtain ⟨ds, num', x4, e, fit⟩ := sFor_gen (b := dgBody) (g := .nm 4) (I := fun xs t h' => ∃ (todo dn fs : List Int) (num : Int) (x4 : Option Ev.D), xs = todo.map D.int ∧ dn ++ todo = ss ∧ t = [some (.int cell), some (.lst (ss.map D.int)), some (.ref h.length), some (.int num), x4] ∧ h' = h ++ [.lst (fs.map D.int)] ∧ Fit fs dn)
    (O := fun y => ∃ (ds : List Int) (num : Int) (x4 : Option Ev.D), y = .nx [some (.int cell), some (.lst (ss.map D.int)), some (.ref h.length), some (.int num), x4] (h ++ [.lst (ds.map D.int)]) ∧ Fit ds ss) ei
    (by
      rintro d xs t h' ⟨todo, dn, fs, num, x4, hd, hds, rfl, rfl, fit⟩
      cases todo with
      | nil => simp at hd
      | cons s todo =>
        rw [List.map_cons] at hd
        obtain ⟨rfl, rfl⟩ := List.cons.inj hd
        have hss := hs s (by rw [← hds]; simp)
        have fl := fit.len
        have dl : dn.length ≤ 500 := by rw [← hds] at hl; simp at hl; omega
        obtain ⟨d, num', d0, d1, e⟩ := dg_step (c := c) (b := h) (cell := cell) (num := num) (x1 := some (.lst (ss.map D.int))) (fs := fs) hss.1 hss.2 (by omega)
        refine ⟨trivial, [some (.int cell), some (.lst (ss.map D.int)), some (.ref h.length), some (.int num), some (.int s)], rfl, ?_⟩
        rw [e]
        exact .nx ⟨todo, dn ++ [s], fs ++ [d], num', _, rfl, by rw [← hds]; simp, rfl, rfl, fit.snoc d0 d1⟩)
    (by
      rintro t h' ⟨todo, dn, fs, num, x4, hd, hds, rfl, rfl, fit⟩
      cases todo with
      | cons s todo => simp at hd
      | nil =>
        rw [List.append_nil] at hds
        subst hds
        exact ⟨trivial, fs, num, x4, rfl, fit⟩)
    ⟨ss, [], [], num, none, rfl, rfl, rfl, rfl, .nil⟩
  refine ⟨ds, ?_, fit⟩
  rw [hb, sSeq_ev, s1, seq_nx, sSeq_ev, s2, seq_nx, sSeq_ev, s3, seq_nx, sSeq_ev, e, seq_nx]
  simp only [sRet_ev, mVar_ev, List.getElem?_cons_succ, List.getElem?_cons_zero, toS_ok, fin_rt]
  unfold fin1
  rw [if_neg (fun z => by have := z.1; rw [lo_ref] at this; omega)]
end K04

namespace K04
open PySem L2 Ev
/-! ### what is told -/
abbrev wAns : List Nat := [97, 110, 115, 119, 101, 114]
abbrev wMiss : List Nat := [109, 105, 115, 115, 105, 110, 103]
abbrev wVal : List Nat := [118, 97, 108, 117, 101]
abbrev wRef : List Nat := [114, 101, 102, 117, 115, 101, 100]
theorem told_ans {n : Nat} {a0 a1 a2 a3 a4 d : Ev.D} {h : Hd} (e : callN T n 26 [a0, a1, a2, a3, a4] h = .ok d h) (hd : d.lo h.length) : callN T (n + 1) 27 [a0, a1, a2, a3, a4] h = .ok (.tup [.str wAns, d]) h := by
  rw [call_at (F := ⟨5, 6, b__law_told⟩) rfl]
  generalize callN T n = c at e
  simp [runFn, b__law_told, sTries, e, fin1_same, hd]
theorem told_miss {n : Nat} {a0 a1 a2 a3 a4 : Ev.D} {x : List Nat} {h : Hd} (e : callN T n 26 [a0, a1, a2, a3, a4] h = .exn 1 [.str x] h) : callN T (n + 1) 27 [a0, a1, a2, a3, a4] h = .ok (.tup [.str wMiss, .str x]) h := by
  rw [call_at (F := ⟨5, 6, b__law_told⟩) rfl]
  generalize callN T n = c at e
  have u : ∀ F : Addr → Option Addr → SR, (∀ a d, F a d = .rt (.tup [.str wMiss, .str x]) h) → uni F = .rt (.tup [.str wMiss, .str x]) h := fun F hF => uni_eq hF
  have ea : ([a0, a1, a2, a3, a4].map some ++ List.replicate (6 - 5) (none : Option Ev.D)) = [some a0, some a1, some a2, some a3, some a4, none] := rfl
  rw [runFn_at (np := 5) (nn := 6) rfl ea]
  unfold b__law_told
  rw [sSeq_ev]
  have eb : (sRet (mTup (aCons (mC (.str [97, 110, 115, 119, 101, 114])) (aCons (mCall 26 (aCons (mVar 0) (aCons (mVar 1) (aCons (mVar 2) (aCons (mVar 3) (aCons (mVar 4) aNil)))))) aNil)))) c [some a0, some a1, some a2, some a3, some a4, none] h = .exn 1 [.str x] [some a0, some a1, some a2, some a3, some a4, none] h := by
    simp [e]
  unfold sTries
  rw [eb]
  simp only [onX]
  simp only [List.getElem?_cons_succ, List.getElem?_cons_zero]
  rw [u _ (fun a d => by simp [dIsX, dFld, nmf, dTrue, D.see, SR.noX, SR.wipe])]
  simp only [seq_rt, fin_rt]
  exact fin1_same (hd := by simp)
theorem told_val {n : Nat} {a0 a1 a2 a3 a4 : Ev.D} {x : List Nat} {h : Hd} (e : callN T n 26 [a0, a1, a2, a3, a4] h = .exn 0 [.str x] h) : callN T (n + 1) 27 [a0, a1, a2, a3, a4] h = .ok (.tup [.str wVal, .str x]) h := by
  rw [call_at (F := ⟨5, 6, b__law_told⟩) rfl]
  generalize callN T n = c at e
  have u : ∀ F : Addr → Option Addr → SR, (∀ a d, F a d = .rt (.tup [.str wVal, .str x]) h) → uni F = .rt (.tup [.str wVal, .str x]) h := fun F hF => uni_eq hF
  have ea : ([a0, a1, a2, a3, a4].map some ++ List.replicate (6 - 5) (none : Option Ev.D)) = [some a0, some a1, some a2, some a3, some a4, none] := rfl
  rw [runFn_at (np := 5) (nn := 6) rfl ea]
  unfold b__law_told
  rw [sSeq_ev]
  have eb : (sRet (mTup (aCons (mC (.str [97, 110, 115, 119, 101, 114])) (aCons (mCall 26 (aCons (mVar 0) (aCons (mVar 1) (aCons (mVar 2) (aCons (mVar 3) (aCons (mVar 4) aNil)))))) aNil)))) c [some a0, some a1, some a2, some a3, some a4, none] h = .exn 0 [.str x] [some a0, some a1, some a2, some a3, some a4, none] h := by
    simp [e]
  unfold sTries
  rw [eb]
  simp only [onX]
  simp only [List.getElem?_cons_succ, List.getElem?_cons_zero]
  rw [u _ (fun a d => by simp [dIsX, dFld, nmf, dTrue, D.see, SR.noX, SR.wipe])]
  simp only [seq_rt, fin_rt]
  exact fin1_same (hd := by simp)
theorem told_ref {n : Nat} {a0 a1 a2 a3 a4 : Ev.D} {x : List Nat} {h : Hd} (e : callN T n 26 [a0, a1, a2, a3, a4] h = .exn 2 [.str x] h) : callN T (n + 1) 27 [a0, a1, a2, a3, a4] h = .ok (.tup [.str wRef, .str x]) h := by
  rw [call_at (F := ⟨5, 6, b__law_told⟩) rfl]
  generalize callN T n = c at e
  have u : ∀ F : Addr → Option Addr → SR, (∀ a d, F a d = .rt (.tup [.str wRef, .str x]) h) → uni F = .rt (.tup [.str wRef, .str x]) h := fun F hF => uni_eq hF
  have ea : ([a0, a1, a2, a3, a4].map some ++ List.replicate (6 - 5) (none : Option Ev.D)) = [some a0, some a1, some a2, some a3, some a4, none] := rfl
  rw [runFn_at (np := 5) (nn := 6) rfl ea]
  unfold b__law_told
  rw [sSeq_ev]
  have eb : (sRet (mTup (aCons (mC (.str [97, 110, 115, 119, 101, 114])) (aCons (mCall 26 (aCons (mVar 0) (aCons (mVar 1) (aCons (mVar 2) (aCons (mVar 3) (aCons (mVar 4) aNil)))))) aNil)))) c [some a0, some a1, some a2, some a3, some a4, none] h = .exn 2 [.str x] [some a0, some a1, some a2, some a3, some a4, none] h := by
    simp [e]
  unfold sTries
  rw [eb]
  simp only [onX]
  simp only [List.getElem?_cons_succ, List.getElem?_cons_zero]
  rw [u _ (fun a d => by simp [dIsX, dFld, nmf, dTrue, D.see, SR.noX, SR.wipe])]
  simp only [seq_rt, fin_rt]
  exact fin1_same (hd := by simp)
theorem asked {n : Nat} {k : Nat} {w : Int} {a1 a2 a3 a4 d : Ev.D} {as : List Ev.D} {h : Hd} (hw : (w = 0 ∧ k = 5 ∧ as = [a1, a2]) ∨ (w = 1 ∧ k = 12 ∧ as = [a1, a2]) ∨ (w = 2 ∧ k = 13 ∧ as = [a1, a2]) ∨ (w = 3 ∧ k = 10 ∧ as = [a1, a2, a3]) ∨ (w = 4 ∧ k = 11 ∧ as = [a1, a2, a3, a4]) ∨ (w = 5 ∧ k = 9 ∧ as = [a1, a2, a4])) (e : callN T n k as h = .ok d h) (hd : d.lo h.length) : callN T (n + 1) 26 [.int w, a1, a2, a3, a4] h = .ok d h := by
  rw [call_at (F := ⟨5, 5, b__law_asked⟩) rfl]
  generalize callN T n = c at e
  rcases hw with ⟨rfl, rfl, rfl⟩ | ⟨rfl, rfl, rfl⟩ | ⟨rfl, rfl, rfl⟩ | ⟨rfl, rfl, rfl⟩ | ⟨rfl, rfl, rfl⟩ | ⟨rfl, rfl, rfl⟩ <;> simp [runFn, b__law_asked, dEq, cmpOk, D.plain, near, D.dep, D.see, e, fin1_same, hd]
theorem askedX {n : Nat} {k i : Nat} {w : Int} {a1 a2 a3 a4 : Ev.D} {x : List Nat} {as : List Ev.D} {h : Hd} (hw : (w = 0 ∧ k = 5 ∧ as = [a1, a2]) ∨ (w = 1 ∧ k = 12 ∧ as = [a1, a2]) ∨ (w = 2 ∧ k = 13 ∧ as = [a1, a2]) ∨ (w = 3 ∧ k = 10 ∧ as = [a1, a2, a3]) ∨ (w = 4 ∧ k = 11 ∧ as = [a1, a2, a3, a4]) ∨ (w = 5 ∧ k = 9 ∧ as = [a1, a2, a4])) (e : callN T n k as h = .exn i [.str x] h) : callN T (n + 1) 26 [.int w, a1, a2, a3, a4] h = .exn i [.str x] h := by
  rw [call_at (F := ⟨5, 5, b__law_asked⟩) rfl]
  generalize callN T n = c at e
  rcases hw with ⟨rfl, rfl, rfl⟩ | ⟨rfl, rfl, rfl⟩ | ⟨rfl, rfl, rfl⟩ | ⟨rfl, rfl, rfl⟩ | ⟨rfl, rfl, rfl⟩ | ⟨rfl, rfl, rfl⟩ <;> simp [runFn, b__law_asked, dEq, cmpOk, D.plain, near, D.dep, D.see, e, finX]
end K04

namespace K04
open PySem L2 Ev
abbrev chkM (a b : M) : MS := sIf (tNot (tVal (mCall 18 (aCons a (aCons b aNil))))) (sRet (mC (.bl false))) sNil
theorem chk {c : Calls} {t : Tau} {h : Hd} {a b : M} {d : Ev.D} (ea : a c t h = .ok d h) (eb : b c t h = .ok d h) (e : c 18 [d, d] h = .ok (.bl true) h) : chkM a b c t h = .nx t h := by
  simp [ea, eb, e, dTrue, D.see]
theorem alike2 {n : Nat} (hn : 2 ≤ n) (x y : List Nat) (h : Hd) : callN T n 18 [.tup [.str x, .str y], .tup [.str x, .str y]] h = .ok (.bl true) h :=
  c_alike n _ h (by simp [gd, gdA]) (by simp [D.dep, D.depA]; omega)
theorem c_strangers {n : Nat} (hn : 5 ≤ n) (f : Flow) {s u v : List Nat} (hs : s ∈ f.st) (hu : u ∉ f.st) (hv : v ∉ f.st) (z : Int) (trip : Ev.D) (h : Hd) : callN T n 30 [f.D, .str s, .str u, .str v, .int z, trip] h = .ok (.bl true) h := by
  obtain ⟨m, rfl⟩ := lvl hn
  rw [call_at (F := ⟨6, 7, b__law_strangers_told⟩) rfl]
  have t0 := told_miss (askedX (w := 0) (a3 := .str v) (a4 := .int z) (.inl ⟨rfl, rfl, rfl⟩) (c_reachableX (n := m + 2) (by omega) f hu h))
  have t1 := told_miss (askedX (w := 1) (a3 := .str v) (a4 := .int z) (.inr (.inl ⟨rfl, rfl, rfl⟩)) (c_mustX (n := m + 2) (by omega) f hu h))
  have t2 := told_miss (askedX (w := 2) (a3 := .str v) (a4 := .int z) (.inr (.inr (.inl ⟨rfl, rfl, rfl⟩))) (c_leastX (n := m + 2) (by omega) f hu h))
  have t5 := told_miss (askedX (w := 5) (a3 := .str []) (a4 := trip) (.inr (.inr (.inr (.inr (.inr ⟨rfl, rfl, rfl⟩))))) (c_alongX (n := m + 2) (by omega) f hv trip h))
  have t3a := told_miss (askedX (w := 3) (a3 := .str s) (a4 := .int z) (.inr (.inr (.inr (.inl ⟨rfl, rfl, rfl⟩)))) (c_shortX1 (n := m + 2) (by omega) f hu s h))
  have t3b := told_miss (askedX (w := 3) (a3 := .str v) (a4 := .int z) (.inr (.inr (.inr (.inl ⟨rfl, rfl, rfl⟩)))) (c_shortX2 (n := m + 2) (by omega) f hs hv h))
  have t3c := told_miss (askedX (w := 3) (a3 := .str u) (a4 := .int z) (.inr (.inr (.inr (.inl ⟨rfl, rfl, rfl⟩)))) (c_shortX1 (n := m + 2) (by omega) f hv u h))
  have t4a := told_miss (askedX (w := 4) (a3 := .str s) (a4 := .int z) (.inr (.inr (.inr (.inr (.inl ⟨rfl, rfl, rfl⟩))))) (c_countX1 (n := m + 2) (by omega) f hu s z h))
  have t4b := told_miss (askedX (w := 4) (a3 := .str v) (a4 := .int z) (.inr (.inr (.inr (.inr (.inl ⟨rfl, rfl, rfl⟩))))) (c_countX2 (n := m + 2) (by omega) f hs hv z h))
  have t4c := told_miss (askedX (w := 4) (a3 := .str u) (a4 := .int z) (.inr (.inr (.inr (.inr (.inl ⟨rfl, rfl, rfl⟩))))) (c_countX1 (n := m + 2) (by omega) f hv u z h))
  have q1 := alike2 (n := m + 4) (by omega) wMiss u h
  have q2 := alike2 (n := m + 4) (by omega) wMiss v h
  simp only [Nat.add_assoc] at t0 t1 t2 t5 t3a t3b t3c t4a t4b t4c
  generalize callN T (m + 4) = c at *
  generalize f.D = F at *
  simp [runFn, b__law_strangers_told, sFor, forL, Src.ok, dIter, asg, t0, t1, t2, t5, t3a, t3b, t3c, t4a, t4b, t4c, q1, q2, dTrue, D.see, fin1_same]
end K04

namespace K04
open PySem L2 Ev
/-! ### least sums: relaxing -/
abbrev Di := List Nat → Option Int
def relx (b : Bool) (big : Int) (g : Di) (w : Way) : Di := match g (sel b w) with
  | none => g
  | some d => if d + w.d < (g (sel (!b) w)).getD big then fun x => if sel (!b) w = x then some (d + w.d) else g x else g
def Better (g g' : Di) : Prop := ∀ x d, g x = some d → ∃ d', g' x = some d' ∧ d' ≤ d
theorem Better.refl (g : Di) : Better g g := fun x d h => ⟨d, h, Int.le_refl d⟩
theorem Better.trans {a b c : Di} (x : Better a b) (y : Better b c) : Better a c := fun z d h => by
  obtain ⟨d1, h1, l1⟩ := x z d h
  obtain ⟨d2, h2, l2⟩ := y z d1 h1
  exact ⟨d2, h2, by omega⟩
theorem relx_better (b : Bool) (big : Int) (g : Di) (w : Way) : Better g (relx b big g w) := by
  intro x d h
  unfold relx
  cases e : g (sel b w) with
  | none => exact ⟨d, h, Int.le_refl d⟩
  | some d1 =>
    by_cases q : d1 + w.d < (g (sel (!b) w)).getD big
    · simp only [q, if_true]
      by_cases r : sel (!b) w = x
      · rw [if_pos r]
        rw [r, h] at q
        exact ⟨_, rfl, by simp at q; omega⟩
      · rw [if_neg r]
        exact ⟨d, h, Int.le_refl d⟩
    · simp only [q, if_false]
      exact ⟨d, h, Int.le_refl d⟩
theorem relx_best {b : Bool} {big : Int} {g : Di} {w : Way} {d : Int} (h : g (sel b w) = some d) (hb : d + w.d < big) : ∃ e, relx b big g w (sel (!b) w) = some e ∧ e ≤ d + w.d := by
  unfold relx
  simp only [h]
  by_cases q : d + w.d < (g (sel (!b) w)).getD big
  · simp only [q, if_true]
    exact ⟨_, rfl, Int.le_refl _⟩
  · simp only [q, if_false]
    cases e : g (sel (!b) w) with
    | none => rw [e] at q; simp at q; omega
    | some d2 => rw [e] at q; simp at q; exact ⟨d2, rfl, by omega⟩
/-- a walk from a start: its states, the last one first, its sum -/
inductive Wl (b : Bool) (f : Flow) (U : List (List Nat)) : List Nat → List (List Nat) → Int → Prop
  | start {x : List Nat} : x ∈ U → Wl b f U x [x] 0
  | step {p : List (List Nat)} {s : Int} {w : Way} : w ∈ f.ws → Wl b f U (sel b w) p s → Wl b f U (sel (!b) w) (sel (!b) w :: p) (s + w.d)
theorem relx_sound {b : Bool} {big : Int} {f : Flow} {U : List (List Nat)} {g : Di} {w : Way} (hw : w ∈ f.ws) (h : ∀ x d, g x = some d → ∃ p, Wl b f U x p d) : ∀ x d, relx b big g w x = some d → ∃ p, Wl b f U x p d := by
  intro x d e
  unfold relx at e
  cases e1 : g (sel b w) with
  | none => rw [e1] at e; exact h x d e
  | some d1 =>
    rw [e1] at e
    by_cases q : d1 + w.d < (g (sel (!b) w)).getD big
    · simp only [q, if_true] at e
      by_cases r : sel (!b) w = x
      · rw [if_pos r] at e
        injection e with e
        obtain ⟨p, hp⟩ := h _ _ e1
        subst r e
        exact ⟨_, .step hw hp⟩
      · rw [if_neg r] at e
        exact h x d e
    · simp only [q, if_false] at e
      exact h x d e
def rel1 (b : Bool) (big : Int) (f : Flow) (g : Di) : Di := f.ws.foldl (relx b big) g
theorem fold_better (b : Bool) (big : Int) : ∀ (ws : List Way) (g : Di), Better g (ws.foldl (relx b big) g)
  | [], g => Better.refl g
  | w :: ws, g => (relx_better b big g w).trans (fold_better b big ws _)
theorem fold_best {b : Bool} {big : Int} {w : Way} : ∀ (ws : List Way) (g : Di) (d : Int), w ∈ ws → g (sel b w) = some d → d + w.d < big → ∃ e, ws.foldl (relx b big) g (sel (!b) w) = some e ∧ e ≤ d + w.d
  | [], _, _, hw, _, _ => absurd hw (by simp)
  | v :: ws, g, d, hw, h, hb => by
    rw [List.foldl_cons]
    rcases List.mem_cons.mp hw with rfl | hw
    · obtain ⟨e, h1, l1⟩ := relx_best h hb
      obtain ⟨e2, h2, l2⟩ := fold_better b big ws _ _ _ h1
      exact ⟨e2, h2, by omega⟩
    · obtain ⟨d', h1, l1⟩ := relx_better b big g v _ _ h
      obtain ⟨e, h2, l2⟩ := fold_best (big := big) ws _ d' hw h1 (by omega)
      exact ⟨e, h2, by omega⟩
theorem fold_sound {b : Bool} {big : Int} {f : Flow} {U : List (List Nat)} : ∀ (ws : List Way) (g : Di), (∀ w ∈ ws, w ∈ f.ws) → (∀ x d, g x = some d → ∃ p, Wl b f U x p d) → ∀ x d, ws.foldl (relx b big) g x = some d → ∃ p, Wl b f U x p d
  | [], _, _, h => h
  | w :: ws, g, hw, h => fold_sound ws _ (fun v hv => hw v (List.mem_cons_of_mem _ hv)) (relx_sound (hw w (List.mem_cons_self ..)) h)
def relN (b : Bool) (big : Int) (f : Flow) (g : Di) : Nat → Di
  | 0 => g
  | n + 1 => rel1 b big f (relN b big f g n)
def st0 (U : List (List Nat)) : Di := fun x => if x ∈ U then some 0 else none
theorem relN_better (b : Bool) (big : Int) (f : Flow) (g : Di) : ∀ n, Better g (relN b big f g n)
  | 0 => Better.refl g
  | n + 1 => (relN_better b big f g n).trans (fold_better b big _ _)
theorem relN_sound {b : Bool} {big : Int} {f : Flow} {U : List (List Nat)} : ∀ n x d, relN b big f (st0 U) n x = some d → ∃ p, Wl b f U x p d
  | 0, x, d, h => by
    unfold relN st0 at h
    by_cases q : x ∈ U
    · rw [if_pos q] at h; injection h with h; subst h; exact ⟨_, .start q⟩
    · rw [if_neg q] at h; cases h
  | n + 1, x, d, h => fold_sound f.ws _ (fun _ h => h) (relN_sound n) x d h
theorem Wl.pos {b : Bool} {f : Flow} {U : List (List Nat)} {x : List Nat} {p : List (List Nat)} {s : Int} (h : Wl b f U x p s) : 1 ≤ p.length := by cases h <;> simp
theorem relN_full {b : Bool} {big : Int} {f : Flow} {U : List (List Nat)} (h0 : ∀ w ∈ f.ws, 0 ≤ w.d) {x : List Nat} {p : List (List Nat)} {s : Int} (h : Wl b f U x p s) : ∀ n, p.length ≤ n + 1 → s < big → ∃ d, relN b big f (st0 U) n x = some d ∧ d ≤ s := by
  induction h with
  | start hx =>
    intro n _ _
    exact relN_better b big f (st0 U) n _ _ (by unfold st0; rw [if_pos hx])
  | step hw hp ih =>
    intro n hn hs
    have := hp.pos
    rw [List.length_cons] at hn
    obtain ⟨n, rfl⟩ : ∃ m, n = m + 1 := ⟨n - 1, by omega⟩
    have hd := h0 _ hw
    obtain ⟨d, h1, l1⟩ := ih n (by omega) (by omega)
    obtain ⟨e, h2, l2⟩ := fold_best (big := big) f.ws _ d hw h1 (by omega)
    exact ⟨e, h2, by omega⟩
theorem Wl.nonneg {b : Bool} {f : Flow} {U : List (List Nat)} (h0 : ∀ w ∈ f.ws, 0 ≤ w.d) {x : List Nat} {p : List (List Nat)} {s : Int} (h : Wl b f U x p s) : 0 ≤ s := by
  induction h with
  | start _ => exact Int.le_refl _
  | step hw _ ih => have := h0 _ hw; omega
theorem Wl.sub {b : Bool} {f : Flow} {U : List (List Nat)} (h0 : ∀ w ∈ f.ws, 0 ≤ w.d) {z x : List Nat} {p : List (List Nat)} {s : Int} (h : Wl b f U x p s) : z ∈ p → ∃ p' s', Wl b f U z p' s' ∧ s' ≤ s ∧ p'.Sublist p := by
  induction h with
  | start hx =>
    intro hz
    rw [List.mem_singleton.mp hz]
    exact ⟨_, _, .start hx, Int.le_refl _, List.Sublist.refl _⟩
  | step hw hp ih =>
    intro hz
    rcases List.mem_cons.mp hz with rfl | hz
    · exact ⟨_, _, .step hw hp, Int.le_refl _, List.Sublist.refl _⟩
    · obtain ⟨p', s', i1, i2, i3⟩ := ih hz
      have := h0 _ hw
      exact ⟨p', s', i1, by omega, i3.cons _⟩
theorem Wl.once {b : Bool} {f : Flow} {U : List (List Nat)} (h0 : ∀ w ∈ f.ws, 0 ≤ w.d) {x : List Nat} {p : List (List Nat)} {s : Int} (h : Wl b f U x p s) : ∃ p' s', Wl b f U x p' s' ∧ s' ≤ s ∧ p'.Nodup := by
  induction h with
  | start hx => exact ⟨_, _, .start hx, Int.le_refl _, by simp⟩
  | @step p s w hw hp ih =>
    obtain ⟨p', s', i1, i2, i3⟩ := ih
    have := h0 _ hw
    by_cases q : sel (!b) w ∈ p'
    · obtain ⟨p2, s2, j1, j2, j3⟩ := i1.sub h0 q
      exact ⟨p2, s2, j1, by omega, j3.nodup i3⟩
    · exact ⟨_, _, .step hw i1, by omega, List.nodup_cons.mpr ⟨q, i3⟩⟩
theorem Wl.sum {b : Bool} {f : Flow} {U : List (List Nat)} (h20 : ∀ w ∈ f.ws, w.d ≤ 20) {x : List Nat} {p : List (List Nat)} {s : Int} (h : Wl b f U x p s) : s + 20 ≤ 20 * (p.length : Int) := by
  induction h with
  | start _ => simp
  | step hw _ ih => have := h20 _ hw; rw [List.length_cons]; omega
theorem Wl.st {b : Bool} {f : Flow} (o : f.ok) {U : List (List Nat)} (hU : ∀ x ∈ U, x ∈ f.st) {x : List Nat} {p : List (List Nat)} {s : Int} (h : Wl b f U x p s) : ∀ y ∈ p, y ∈ f.st := by
  induction h with
  | start hx => intro y hy; rw [List.mem_singleton.mp hy]; exact hU _ hx
  | @step p s w hw hp ih =>
    intro y hy
    rcases List.mem_cons.mp hy with rfl | hy
    · cases b
      · exact o.tgt w hw
      · exact o.src w hw
    · exact ih y hy
/-- what the rounds tell -/
theorem relN_tells {b : Bool} {big : Int} {f : Flow} (o : f.ok) (h0 : ∀ w ∈ f.ws, 0 ≤ w.d ∧ w.d ≤ 20) (hb : 200 ≤ big) {U : List (List Nat)} (hU : ∀ x ∈ U, x ∈ f.st) {n : Nat} (hn : f.st.length ≤ n + 1) :
    (∀ x d, relN b big f (st0 U) n x = some d → ∃ p, Wl b f U x p d) ∧ ∀ x p s, Wl b f U x p s → ∃ d, relN b big f (st0 U) n x = some d ∧ d ≤ s := by
  refine ⟨relN_sound n, fun x p s h => ?_⟩
  obtain ⟨p', s', i1, i2, i3⟩ := h.once fun w hw => (h0 w hw).1
  have l1 := nodup_le i3 (i1.st o hU)
  have l2 := i1.sum fun w hw => (h0 w hw).2
  have := o.s8
  obtain ⟨d, e, l⟩ := relN_full (big := big) (fun w hw => (h0 w hw).1) i1 n (by omega) (by omega)
  exact ⟨d, e, by omega⟩
/-- a walk from u to v -/
inductive Go (f : Flow) (u : List Nat) : List Nat → Int → Prop
  | refl : Go f u u 0
  | snoc {s : Int} {w : Way} : w ∈ f.ws → Go f u w.s s → Go f u w.t (s + w.d)
theorem Go.cons {f : Flow} {v : List Nat} {s : Int} {w : Way} (hw : w ∈ f.ws) (h : Go f w.t v s) : Go f w.s v (s + w.d) := by
  induction h with
  | refl => exact .snoc hw .refl
  | @snoc s w' hw' _ ih =>
    have := Go.snoc hw' ih
    rw [show s + w.d + w'.d = s + w'.d + w.d by omega] at this
    exact this
theorem Go.of_fwd {f : Flow} {u x : List Nat} {p : List (List Nat)} {s : Int} (h : Wl false f [u] x p s) : Go f u x s := by
  induction h with
  | start hx => rw [List.mem_singleton.mp hx]; exact .refl
  | step hw _ ih => exact .snoc hw ih
theorem Go.fwd {f : Flow} {u x : List Nat} {s : Int} (h : Go f u x s) : ∃ p, Wl false f [u] x p s := by
  induction h with
  | refl => exact ⟨_, .start (by simp)⟩
  | @snoc s w hw _ ih =>
    obtain ⟨p, hp⟩ := ih
    exact ⟨_, Wl.step (b := false) hw hp⟩
theorem Go.of_bwd {f : Flow} {U : List (List Nat)} {x : List Nat} {p : List (List Nat)} {s : Int} (h : Wl true f U x p s) : ∃ c ∈ U, Go f x c s := by
  induction h with
  | start hx => exact ⟨_, hx, .refl⟩
  | @step p s w hw _ ih =>
    obtain ⟨c, hc, g⟩ := ih
    exact ⟨c, hc, Go.cons hw g⟩
theorem Go.bwd {f : Flow} {U : List (List Nat)} {u v : List Nat} {s : Int} (h : Go f u v s) : ∀ p s0, Wl true f U v p s0 → ∃ p', Wl true f U u p' (s + s0) := by
  induction h with
  | refl => intro p s0 h; exact ⟨p, by rw [Int.zero_add]; exact h⟩
  | @snoc s w hw _ ih =>
    intro p s0 h
    obtain ⟨p', h'⟩ := ih _ _ (Wl.step (b := true) hw h)
    exact ⟨p', by rw [show s + w.d + s0 = s + (s0 + w.d) by omega]; exact h'⟩
/-- both ways alike -/
theorem both_least {f : Flow} (o : f.ok) (h0 : ∀ w ∈ f.ws, 0 ≤ w.d ∧ w.d ≤ 20) {u : List Nat} (hu : u ∈ f.st) {n : Nat} {big big' : Int} (hn : f.st.length ≤ n + 1) (hb : 200 ≤ big) (hb' : 200 ≤ big') :
    (relN true big f (st0 f.cl) n u = none ↔ ∀ c ∈ f.cl, relN false big' f (st0 [u]) 8 c = none) ∧
    ∀ d, relN true big f (st0 f.cl) n u = some d → (∃ c ∈ f.cl, relN false big' f (st0 [u]) 8 c = some d) ∧ ∀ c ∈ f.cl, ∀ e, relN false big' f (st0 [u]) 8 c = some e → d ≤ e := by
  obtain ⟨s1, c1⟩ := relN_tells (b := true) o h0 hb o.clos hn
  obtain ⟨s2, c2⟩ := relN_tells (b := false) (U := [u]) (n := 8) o h0 hb' (fun x hx => by rw [List.mem_singleton.mp hx]; exact hu) (by have := o.s8; omega)
  have low : ∀ c ∈ f.cl, ∀ e, relN false big' f (st0 [u]) 8 c = some e → ∃ d, relN true big f (st0 f.cl) n u = some d ∧ d ≤ e := by
    intro c hc e he
    obtain ⟨p, hp⟩ := s2 c e he
    obtain ⟨p', hp'⟩ := (Go.of_fwd hp).bwd (U := f.cl) _ _ (Wl.start hc)
    obtain ⟨d, h1, h2⟩ := c1 _ _ _ hp'
    exact ⟨d, h1, by omega⟩
  have back : ∀ d, relN true big f (st0 f.cl) n u = some d → ∃ c ∈ f.cl, ∃ e, relN false big' f (st0 [u]) 8 c = some e ∧ e ≤ d := by
    intro d hd
    obtain ⟨p, hp⟩ := s1 u d hd
    obtain ⟨c, hc, g⟩ := Go.of_bwd hp
    obtain ⟨p', hp'⟩ := g.fwd
    obtain ⟨e, h1, h2⟩ := c2 _ _ _ hp'
    exact ⟨c, hc, e, h1, h2⟩
  refine ⟨⟨fun h c hc => ?_, fun h => ?_⟩, fun d hd => ⟨?_, fun c hc e he => ?_⟩⟩
  · cases e : relN false big' f (st0 [u]) 8 c with
    | none => rfl
    | some e' =>
      obtain ⟨d, h1, _⟩ := low c hc e' e
      rw [h] at h1; cases h1
  · cases e : relN true big f (st0 f.cl) n u with
    | none => rfl
    | some d =>
      obtain ⟨c, hc, e', h1, _⟩ := back d e
      rw [h c hc] at h1; cases h1
  · obtain ⟨c, hc, e, h1, l1⟩ := back d hd
    obtain ⟨d', h2, l2⟩ := low c hc e h1
    rw [hd] at h2
    injection h2 with h2
    exact ⟨c, hc, by rw [h1]; congr 1; omega⟩
  · obtain ⟨d', h2, l2⟩ := low c hc e he
    rw [hd] at h2
    injection h2 with h2
    omega
end K04

namespace K04
open PySem L2 Ev
/-! ### least days: the walk -/
/-- the dict es tells g -/
structure Dis (es : List (Ev.D × Ev.D)) (g : Di) : Prop where
  at_ : ∀ x, getD es (.str x) = (g x).map D.int
/-- only the slots js may differ -/
structure Off (js : List Nat) (t t' : Tau) : Prop where
  len : t'.length = t.length
  same : ∀ j, j ∉ js → t'[j]? = t[j]?
theorem Off.refl (js : List Nat) (t : Tau) : Off js t t := ⟨rfl, fun _ _ => rfl⟩
theorem Off.set {js : List Nat} {t t' : Tau} {i : Nat} {x : Option Ev.D} (o : Off js t t') (hi : i ∈ js) : Off js t (t'.set i x) :=
  ⟨by rw [List.length_set, o.len], fun j hj => by rw [List.getElem?_set_ne (by rintro rfl; exact hj hi)]; exact o.same j hj⟩
theorem Off.trans {js ks : List Nat} {a b c : Tau} (x : Off js a b) (y : Off ks b c) (h : ∀ j ∈ ks, j ∈ js) : Off js a c :=
  ⟨y.len.trans x.len, fun j hj => (y.same j fun z => hj (h j z)).trans (x.same j hj)⟩
abbrev ldIn (b : Bool) (i : Nat) (B : M) : MS := (sIf (tAnd (tCmp (mOp (dIn false) (mOp dIx (mVar i) (mC (.int (ix b)))) (mVar 2))) (tCmp (mOp dLt (mOp (dAdd false) (mOp dIx (mVar 2) (mOp dIx (mVar i) (mC (.int (ix b))))) (mOp dIx (mVar i) (mC (.int 3)))) (mMt kGet (mVar 2) (aCons (mOp dIx (mVar i) (mC (.int (ix (!b))))) (aCons B aNil))))))
  (sPut (mVar 2) (mOp dIx (mVar i) (mC (.int (ix (!b))))) (mOp (dAdd false) (mOp dIx (mVar 2) (mOp dIx (mVar i) (mC (.int (ix b))))) (mOp dIx (mVar i) (mC (.int 3)))))
  sNil)
theorem ld_in {b : Bool} {i : Nat} {B : M} {big : Int} {c : Calls} {t : Tau} {h : Hd} {K : Nat} {es : List (Ev.D × Ev.D)} {g : Di} {w : Way} (t2 : t[2]? = some (some (.ref K))) (ti : t[i]? = some (some w.D)) (hK : h[K]? = some (.dict es)) (dg : Dis es g) (hB : B c t h = .ok (.int big) h) (hz : es.length ≤ 1000) :
    ∃ es2, ldIn b i B c t h = .nx t (h.set K (.dict es2)) ∧ Dis es2 (relx b big g w) ∧ es2.length ≤ es.length + 1 := by
  have i1 := in_dict (n := false) (x := sel b w) hK
  have e1 : tCmp (mOp (dIn false) (mOp dIx (mVar i) (mC (.int (ix b)))) (mVar 2)) c t h = .ok (g (sel b w)).isSome h := by
    simp only [tCmp_ev, mOp_ev, mVar_ev, ti, t2, bind_ok, mC_ev, wsel, i1, Bool.false_bne, dBl_ev, dg.at_, Option.isSome_map]
  have stay : ldIn b i B c t h = .nx t h → (∀ x, relx b big g w x = g x) → ∃ es2, ldIn b i B c t h = .nx t (h.set K (.dict es2)) ∧ Dis es2 (relx b big g w) ∧ es2.length ≤ es.length + 1 := fun e r =>
    ⟨es, by rw [e, set_self hK], ⟨fun x => by rw [r]; exact dg.at_ x⟩, by omega⟩
  cases eg : g (sel b w) with
  | none =>
    refine stay ?_ (fun x => by unfold relx; rw [eg])
    unfold ldIn
    rw [eg] at e1
    rw [sIf_ev, tAnd_ev, e1]
    rfl
  | some d =>
    have gd := dg.at_ (sel b w)
    rw [eg] at gd
    have ed := ix_dict hK (show getD es (.str (sel b w)) = some (.int d) from gd)
    have ev : mOp (dAdd false) (mOp dIx (mVar 2) (mOp dIx (mVar i) (mC (.int (ix b))))) (mOp dIx (mVar i) (mC (.int 3))) c t h = .ok (.int (d + w.d)) h := by
      simp only [mOp_ev, mVar_ev, t2, ti, bind_ok, mC_ev, wsel, ed, w3]
      rfl
    have ek : mOp dIx (mVar i) (mC (.int (ix (!b)))) c t h = .ok (.str (sel (!b) w)) h := by
      simp only [mOp_ev, mVar_ev, ti, bind_ok, mC_ev, wsel]
    have eg2 := get2_dict (K := K) hK (cl := c) (t := t) (mo := mVar 2) (ma := mOp dIx (mVar i) (mC (.int (ix (!b))))) (mb := B) (k := sel (!b) w) (z := .int big) (by simp only [mVar_ev, t2]) ek hB
    have gv : (getD es (.str (sel (!b) w))).getD (.int big) = .int ((g (sel (!b) w)).getD big) := by
      rw [dg.at_]
      cases g (sel (!b) w) <;> rfl
    rw [gv] at eg2
    have e2 : tCmp (mOp dLt (mOp (dAdd false) (mOp dIx (mVar 2) (mOp dIx (mVar i) (mC (.int (ix b))))) (mOp dIx (mVar i) (mC (.int 3)))) (mMt kGet (mVar 2) (aCons (mOp dIx (mVar i) (mC (.int (ix (!b))))) (aCons B aNil)))) c t h = .ok (decide (d + w.d < (g (sel (!b) w)).getD big)) h := by
      rw [tCmp_ev, mOp_ev, ev, bind_ok, eg2, bind_ok]
      rfl
    by_cases q : d + w.d < (g (sel (!b) w)).getD big
    · have pt := put_at (c := c) (t := t) (h := h) (i := 2) (K := K) (mk := mOp dIx (mVar i) (mC (.int (ix (!b))))) (k := sel (!b) w) t2 hK ek ev (by omega)
      refine ⟨_, ?_, ⟨fun x => ?_⟩, putD_len es (.str (sel (!b) w)) (.int (d + w.d))⟩
      · unfold ldIn
        rw [eg] at e1
        rw [sIf_ev, tAnd_ev, e1, bind_ok, Option.isSome_some, if_pos rfl, e2, decide_eq_true q, toS_ok, if_pos rfl]
        exact pt
      · rw [getD_putS]
        unfold relx
        simp only [eg, q, if_true]
        by_cases r : sel (!b) w = x
        · rw [if_pos r, if_pos r]; rfl
        · rw [if_neg r, if_neg r]; exact dg.at_ x
    · refine stay ?_ (fun x => by unfold relx; simp only [eg, q, if_false])
      unfold ldIn
      rw [eg] at e1
      rw [sIf_ev, tAnd_ev, e1, bind_ok, Option.isSome_some, if_pos rfl, e2, decide_eq_false q, toS_ok, if_neg (by decide)]
      rfl
theorem ld_for {b : Bool} {i : Nat} {B : M} {big : Int} {f : Flow} (o : f.ok) {c : Calls} {t : Tau} {h : Hd} {K : Nat} {es : List (Ev.D × Ev.D)} {g : Di} (t0 : t[0]? = some (some f.D)) (t2 : t[2]? = some (some (.ref K))) (h0 : i ≠ 0) (h2 : i ≠ 2) (hi : i < t.length) (hK : h[K]? = some (.dict es)) (dg : Dis es g)
    (hB : ∀ t h, B c t h = .ok (.int big) h) (hz : es.length ≤ 900) :
    ∃ t' es2, sFor (iVal (mOp dIx (mVar 0) (mC (.int 2)))) (.nm i) (ldIn b i B) c t h = .nx t' (h.set K (.dict es2)) ∧ Off [i] t t' ∧ Dis es2 (rel1 b big f g) ∧ es2.length ≤ es.length + 16 := by
  have hKl := (List.getElem?_eq_some_iff.mp hK).1
  have ei : iVal (mOp dIx (mVar 0) (mC (.int 2))) c t h = .ok ⟨f.ws.map Way.D, none⟩ h := by
    simp only [iVal_ev, mOp_ev, mVar_ev, t0, bind_ok, mC_ev, f2]
    simp [dIter]
  have ol := o.w16
  refine sFor_gen (b := ldIn b i B) (g := .nm i) (I := fun ds t' h' => ∃ (todo : List Way) (es' : List (Ev.D × Ev.D)) (a : Di), ds = todo.map Way.D ∧ Off [i] t t' ∧ h' = h.set K (.dict es') ∧ Dis es' a ∧ todo.foldl (relx b big) a = rel1 b big f g ∧ es'.length + todo.length ≤ es.length + 16)
    (O := fun z => ∃ t' es2, z = .nx t' (h.set K (.dict es2)) ∧ Off [i] t t' ∧ Dis es2 (rel1 b big f g) ∧ es2.length ≤ es.length + 16) ei ?_ ?_ ?_
  · rintro d ds t' h' ⟨todo, es', a, hd, of, rfl, na, ef, hz'⟩
    cases todo with
    | nil => simp at hd
    | cons w todo =>
      rw [List.map_cons] at hd
      obtain ⟨rfl, rfl⟩ := List.cons.inj hd
      rw [List.length_cons] at hz'
      have of' : Off [i] t (t'.set i (some w.D)) := of.set (by simp)
      have ti : (t'.set i (some w.D))[i]? = some (some w.D) := List.getElem?_set_self (by rw [of.len]; exact hi)
      have t2' : (t'.set i (some w.D))[2]? = some (some (.ref K)) := by rw [of'.same 2 (by simp [Ne.symm h2])]; exact t2
      have hK' : (h.set K (.dict es'))[K]? = some (.dict es') := List.getElem?_set_self hKl
      obtain ⟨es2, e, n2, l2⟩ := ld_in (b := b) (i := i) (c := c) (w := w) t2' ti hK' na (hB _ _) (by omega)
      refine ⟨trivial, t'.set i (some w.D), rfl, ?_⟩
      rw [e, List.set_set]
      exact .nx ⟨todo, es2, _, rfl, of', rfl, n2, by rw [← ef]; rfl, by omega⟩
  · rintro t' h' ⟨todo, es', a, hd, of, rfl, na, ef, hz'⟩
    cases todo with
    | cons w todo => simp at hd
    | nil =>
      have ef : a = rel1 b big f g := ef
      exact ⟨trivial, t', es', rfl, of, ef ▸ na, by simpa using hz'⟩
  · exact ⟨f.ws, es, g, rfl, Off.refl _ _, by rw [set_self hK], dg, rfl, by omega⟩
theorem ld_rounds {b : Bool} {i : Nat} {B : M} {big : Int} {f : Flow} (o : f.ok) {c : Calls} {t : Tau} {h : Hd} {K : Nat} {es : List (Ev.D × Ev.D)} {g : Di} {it : MI} {n : Nat} (ei : it c t h = .ok ⟨rngD 0 n, none⟩ h) (hn : n ≤ 8) (t0 : t[0]? = some (some f.D)) (t2 : t[2]? = some (some (.ref K))) (h0 : i ≠ 0) (h2 : i ≠ 2) (hi : i < t.length) (hK : h[K]? = some (.dict es)) (dg : Dis es g)
    (hB : ∀ t h, B c t h = .ok (.int big) h) (hz : es.length ≤ 100) :
    ∃ t' es2, sFor it (.nm 3) (sFor (iVal (mOp dIx (mVar 0) (mC (.int 2)))) (.nm i) (ldIn b i B)) c t h = .nx t' (h.set K (.dict es2)) ∧ Off [3, i] t t' ∧ Dis es2 (relN b big f g n) := by
  have hKl := (List.getElem?_eq_some_iff.mp hK).1
  refine sFor_gen (b := sFor (iVal (mOp dIx (mVar 0) (mC (.int 2)))) (.nm i) (ldIn b i B)) (g := .nm 3) (I := fun ds t' h' => ∃ (s m : Nat) (es' : List (Ev.D × Ev.D)), ds = (List.range' s m).map (fun (k : Nat) => D.int (k : Int)) ∧ s + m = n ∧ Off [3, i] t t' ∧ h' = h.set K (.dict es') ∧ Dis es' (relN b big f g s) ∧ es'.length ≤ 100 + 16 * s)
    (O := fun z => ∃ t' es2, z = .nx t' (h.set K (.dict es2)) ∧ Off [3, i] t t' ∧ Dis es2 (relN b big f g n)) ei ?_ ?_ ?_
  · rintro d ds t' h' ⟨s, m, es', hd, hsm, of, rfl, na, hz'⟩
    cases m with
    | zero => simp at hd
    | succ m =>
      rw [List.range'_succ, List.map_cons] at hd
      obtain ⟨rfl, rfl⟩ := List.cons.inj hd
      have of' : Off [3, i] t (t'.set 3 (some (.int (s : Int)))) := of.set (by simp)
      have t0' : (t'.set 3 (some (.int (s : Int))))[0]? = some (some f.D) := by rw [of'.same 0 (by simp [Ne.symm h0])]; exact t0
      have t2' : (t'.set 3 (some (.int (s : Int))))[2]? = some (some (.ref K)) := by rw [of'.same 2 (by simp [Ne.symm h2])]; exact t2
      have hK' : (h.set K (.dict es'))[K]? = some (.dict es') := List.getElem?_set_self hKl
      obtain ⟨t3, es2, e, of3, n2, l2⟩ := ld_for (b := b) (i := i) (B := B) (c := c) o t0' t2' h0 h2 (by rw [of'.len]; exact hi) hK' na hB (by omega)
      refine ⟨trivial, t'.set 3 (some (.int (s : Int))), rfl, ?_⟩
      rw [e, List.set_set]
      exact .nx ⟨s + 1, m, es2, rfl, by omega, of'.trans of3 (fun j hj => by simp at hj; simp [hj]), rfl, n2, by omega⟩
  · rintro t' h' ⟨s, m, es', hd, hsm, of, rfl, na, hz'⟩
    cases m with
    | succ m => simp [List.range'_succ] at hd
    | zero =>
      have : s = n := by omega
      subst this
      exact ⟨trivial, t', es', rfl, of, na⟩
  · exact ⟨0, n, es, by rw [rngD_eq, List.range_eq_range'], by omega, Off.refl _ _, by rw [set_self hK], dg, by omega⟩
theorem zero_comp {c : Calls} {t : Tau} {h : Hd} (tl : 5 < t.length) : ∀ (xs : List (List Nat)) (src : Src) (es : List (Ev.D × Ev.D)) (g : Di), src.ok h → Dis es g → es.length + xs.length ≤ 1000 →
    ∃ es2, compD src (stepD c (wipeT t [5]) (.nm 5) tYesM (mVar 5) (mC (.int 0))) (xs.map D.str) es h = .ok es2 h ∧ Dis es2 (fun x => if x ∈ xs then some 0 else g x) ∧ es2.length ≤ es.length + xs.length
  | [], src, es, g, hs, dg, _ => by
    refine ⟨es, ?_, ⟨fun x => by simp [dg.at_]⟩, by simp⟩
    rw [List.map_nil]
    unfold compD
    rw [if_pos hs]
  | y :: ys, src, es, g, hs, dg, hz => by
    rw [List.length_cons] at hz
    have v5 : ((wipeT t [5]).set 5 (some (D.str y)))[5]? = some (some (.str y)) := List.getElem?_set_self (by simp [wipeT, tl])
    have est : stepD c (wipeT t [5]) (.nm 5) tYesM (mVar 5) (mC (.int 0)) (.str y) h = .ok (some (.str y, .int 0)) h := by
      unfold stepD asg
      simp only [tYes_ev, bind_ok, if_true, mVar_ev, v5, mC_ev]
      rfl
    have l1 := putD_len es (.str y) (.int 0)
    obtain ⟨es2, e, d2, l2⟩ := zero_comp (c := c) (t := t) tl ys src (putD es (.str y) (.int 0)) (fun x => if y = x then some 0 else g x) hs ⟨fun x => by
      rw [getD_putS]
      by_cases q : y = x
      · rw [if_pos q, if_pos q]; rfl
      · rw [if_neg q, if_neg q]; exact dg.at_ x⟩ (by omega)
    refine ⟨es2, ?_, ⟨fun x => ?_⟩, by rw [List.length_cons]; omega⟩
    · rw [List.map_cons]
      unfold compD
      rw [if_pos hs, est, bind_ok]
      simp only
      rw [if_pos ⟨rfl, by omega⟩]
      exact e
    · rw [d2.at_]
      by_cases q : x ∈ ys
      · simp [q]
      · by_cases r : y = x
        · simp [q, r]
        · simp [q, r, Ne.symm r]
def intD : Option Int → Ev.D
  | none => .non
  | some d => .int d
theorem lo_intD (n : Nat) (x : Option Int) : (intD x).lo n := by cases x <;> simp [intD]
theorem get1_dict {es : List (Ev.D × Ev.D)} {h : Hd} {K : Nat} (e : h[K]? = some (.dict es)) {cl : Calls} {t : Tau} {mo ma : M} {k : List Nat} (eo : mo cl t h = .ok (.ref K) h) (ea : ma cl t h = .ok (.str k) h) : mMt kGet mo (aCons ma aNil) cl t h = .ok ((getD es (.str k)).getD .non) h := by
  rw [mMt_ev, eo, bind_ok]
  have e1 : kindOf (.ref K) h = some .dict := by simp [kindOf, e]
  have e2 : kGet .dict = some fGet := rfl
  simp only [e1, e2, aCons_ev, ea, bind_ok, aNil_ev]
  unfold fGet
  have e3 : D.dict? h (.ref K) = some es := by simp [D.dict?, e]
  simp only [e3]
  rw [if_pos (show keyOk (.str k) = true from rfl)]
theorem c_least {n : Nat} (hn : 2 ≤ n) {f : Flow} (o : f.ok) {u : List Nat} (hu : u ∈ f.st) (h : Hd) : callN T n 13 [f.D, .str u] h = .ok (intD (relN true 1000000000 f (st0 f.cl) f.st.length u)) h := by
  obtain ⟨m, rfl⟩ := lvl hn
  rw [call_at (F := ⟨2, 6, b_least_days⟩) rfl]
  have e1 := c_require (n := m + 1) (by omega) f hu h
  generalize callN T (m + 1) = c at e1
  have ea : ([f.D, .str u].map some ++ List.replicate (6 - 2) (none : Option Ev.D)) = [some f.D, some (.str u), none, none, none, none] := rfl
  rw [runFn_at (np := 2) (nn := 6) rfl ea]
  have hb : b_least_days = sSeq (sExpr (mCall 2 (aCons (mVar 0) (aCons (mVar 1) aNil)))) (sSeq (sSet 2 (mDComp (iVal (mOp dIx (mVar 0) (mC (.int 1)))) (.nm 5) [5] tYesM (mVar 5) (mC (.int 0)))) (sSeq (sFor (iRng1 (mB gLen (aCons (mOp dIx (mVar 0) (mC (.int 0))) aNil))) (.nm 3) (sFor (iVal (mOp dIx (mVar 0) (mC (.int 2)))) (.nm 4) (ldIn true 4 (mC k_NEVER)))) (sRet (mMt kGet (mVar 2) (aCons (mVar 1) aNil))))) := rfl
  have s0 : sExpr (mCall 2 (aCons (mVar 0) (aCons (mVar 1) aNil))) c [some f.D, some (.str u), none, none, none, none] h = .nx [some f.D, some (.str u), none, none, none, none] h := by simp [e1]
  have cl8 := o.c8
  obtain ⟨es, ec, d0, l0⟩ := zero_comp (c := c) (t := [some f.D, some (.str u), none, none, none, none]) (h := h) (by simp) f.cl ⟨f.cl.map D.str, none⟩ [] (fun _ => none) trivial ⟨fun x => rfl⟩ (by simp; omega)
  have s1 : sSet 2 (mDComp (iVal (mOp dIx (mVar 0) (mC (.int 1)))) (.nm 5) [5] tYesM (mVar 5) (mC (.int 0))) c [some f.D, some (.str u), none, none, none, none] h = .nx [some f.D, some (.str u), some (.ref h.length), none, none, none] (h ++ [.dict es]) := by
    have ei : iVal (mOp dIx (mVar 0) (mC (.int 1))) c [some f.D, some (.str u), none, none, none, none] h = .ok ⟨f.cl.map D.str, none⟩ h := by simp [f1, dIter]
    rw [sSet_ev]
    unfold mDComp
    rw [ei, bind_ok, ec, bind_ok, toS_ok]
    rfl
  obtain ⟨z, hz⟩ : ∃ z : Int, z = (f.st.length : Nat) := ⟨_, rfl⟩
  have s8 := o.s8
  have ei : iRng1 (mB gLen (aCons (mOp dIx (mVar 0) (mC (.int 0))) aNil)) c [some f.D, some (.str u), some (.ref h.length), none, none, none] (h ++ [.dict es]) = .ok ⟨rngD 0 f.st.length, none⟩ (h ++ [.dict es]) := by
    have g1 : mB gLen (aCons (mOp dIx (mVar 0) (mC (.int 0))) aNil) c [some f.D, some (.str u), some (.ref h.length), none, none, none] (h ++ [.dict es]) = .ok (.int z) (h ++ [.dict es]) := by
      rw [hz]
      simp only [mB_ev, aCons_ev, mOp_ev, mVar_ev, List.getElem?_cons_succ, List.getElem?_cons_zero, bind_ok, mC_ev, f0, aNil_ev, len_strs, List.length_map]
    rw [iRng1_ev, g1, bind_ok, dRng1_ok _ (by omega) (by omega), show z.toNat = f.st.length by omega]
  obtain ⟨t', es2, e, of, d2⟩ := ld_rounds (b := true) (i := 4) (B := mC k_NEVER) (big := 1000000000) (c := c) o ei s8 rfl rfl (by decide) (by decide) (by simp) (get_last h (.dict es)) d0 (fun _ _ => rfl) (by simp at l0; omega)
  rw [set_last] at e
  have v2 : t'[2]? = some (some (.ref h.length)) := of.same 2 (by decide)
  have v1 : t'[1]? = some (some (.str u)) := of.same 1 (by decide)
  have g1 := get1_dict (K := h.length) (get_last h (.dict es2)) (cl := c) (t := t') (mo := mVar 2) (ma := mVar 1) (k := u) (by simp only [mVar_ev, v2]) (by simp only [mVar_ev, v1])
  rw [hb, sSeq_ev, s0, seq_nx, sSeq_ev, s1, seq_nx, sSeq_ev, e, seq_nx, sRet_ev, g1, toS_ok, fin_rt]
  have ed : (getD es2 (.str u)).getD .non = intD (relN true 1000000000 f (st0 f.cl) f.st.length u) := by
    rw [d2.at_]
    show ((relN true 1000000000 f (st0 f.cl) f.st.length u).map D.int).getD .non = _
    cases relN true 1000000000 f (st0 f.cl) f.st.length u <;> rfl
  rw [ed]
  exact fin1_app (lo_intD _ _)
end K04

namespace K04
open PySem L2 Ev
theorem fold_min (r : List Int) : ∀ a : Int, r.foldl min a ∈ a :: r ∧ ∀ x ∈ a :: r, r.foldl min a ≤ x := by
  induction r with
  | nil => intro a; simp
  | cons b r ih =>
    intro a
    obtain ⟨h1, h2⟩ := ih (min a b)
    rw [List.foldl_cons]
    refine ⟨?_, fun x hx => ?_⟩
    · rcases List.mem_cons.mp h1 with h | h
      · rw [h]
        by_cases q : a ≤ b
        · rw [Int.min_eq_left q]; simp
        · rw [Int.min_eq_right (by omega)]; simp
      · exact List.mem_cons_of_mem _ (List.mem_cons_of_mem _ h)
    · have l1 := h2 (min a b) (List.mem_cons_self ..)
      rcases List.mem_cons.mp hx with rfl | hx
      · omega
      · rcases List.mem_cons.mp hx with rfl | hx
        · omega
        · exact h2 x (List.mem_cons_of_mem _ hx)
theorem toPA_ints (r : List Int) : D.toPA (r.map D.int) = r.map PyData.int := by
  induction r with
  | nil => rfl
  | cons a r ih => simp [D.toPA, D.toP, ih]
theorem noL_ints (r : List Int) : D.noLA (r.map D.int) = true := by
  induction r with
  | nil => rfl
  | cons a r ih => simp [D.noLA, D.noL, ih]
theorem least_ints (a : Int) (r : List Int) : leastD (.int a) (r.map D.int) = .int (r.foldl min a) := by
  refine toP_inj _ _ ?_ rfl ?_
  · exact noLA_iff.mp (noL_ints (a :: r)) _ (leastD_mem (.int a) (r.map D.int))
  · rw [leastD_toP, toPA_ints]
    exact PySem.W.minD_ints a r
theorem min_ints (a : Int) (r : List Int) (h : Hd) : gMinL [.lst ((a :: r).map D.int)] h = .ok (.int (r.foldl min a)) h := by
  have ok : minOk ((a :: r).map D.int) := by
    refine ⟨noL_ints _, by rw [dep_ints]; omega, ?_⟩
    rw [toPA_ints]
    refine ⟨fun x hx y hy => ?_, fun x hx => ?_⟩
    · obtain ⟨i, _, rfl⟩ := List.mem_map.mp hx
      obtain ⟨j, _, rfl⟩ := List.mem_map.mp hy
      exact alike_int i j
    · obtain ⟨i, _, rfl⟩ := List.mem_map.mp hx
      simp
  unfold gMinL
  simp only [Ev.listOf, D.see, List.map_cons]
  rw [List.map_cons] at ok
  rw [if_pos ok, least_ints]
theorem c_lleast {n : Nat} (hn : 1 ≤ n) {f : Flow} (o : f.ok) (h0 : ∀ w ∈ f.ws, 0 ≤ w.d ∧ w.d ≤ 20) {u : List Nat} (hu : u ∈ f.st) (h : Hd) : callN T n 23 [f.D, .str u] h = .ok (intD (relN true 1000000000 f (st0 f.cl) f.st.length u)) h := by
  obtain ⟨m, rfl⟩ := lvl hn
  rw [call_at (F := ⟨2, 7, b__law_least⟩) rfl]
  generalize callN T m = c
  have ea : ([f.D, .str u].map some ++ List.replicate (7 - 2) (none : Option Ev.D)) = [some f.D, some (.str u), none, none, none, none, none] := rfl
  rw [runFn_at (np := 2) (nn := 7) rfl ea]
  have hb : b__law_least = sSeq (sSet 2 (mDict1 (mVar 1) (mC (.int 0)))) (sSeq (sFor (iRng1 (mC (.int 8))) (.nm 3) (sFor (iVal (mOp dIx (mVar 0) (mC (.int 2)))) (.nm 5) (ldIn false 5 (mOp dPow (mC (.int 10)) (mC (.int 6)))))) (sSeq (sSet 4 (mComp false (iVal (mOp dIx (mVar 0) (mC (.int 1)))) (.nm 6) [6] (tCmp (mOp (dIn false) (mVar 6) (mVar 2))) (mOp dIx (mVar 2) (mVar 6)))) (sSeq (sIf (tCmp (mOp (dEq false) (mB gLen (aCons (mVar 4) aNil)) (mC (.int 0)))) (sRet (mC .non)) sNil) (sRet (mB gMinL (aCons (mVar 4) aNil)))))) := rfl
  have s1 : sSet 2 (mDict1 (mVar 1) (mC (.int 0))) c [some f.D, some (.str u), none, none, none, none, none] h = .nx [some f.D, some (.str u), some (.ref h.length), none, none, none, none] (h ++ [.dict [(.str u, .int 0)]]) := by
    simp [dOne, keyOk]
  have ei : iRng1 (mC (.int 8)) c [some f.D, some (.str u), some (.ref h.length), none, none, none, none] (h ++ [.dict [(.str u, .int 0)]]) = .ok ⟨rngD 0 8, none⟩ (h ++ [.dict [(.str u, .int 0)]]) := by
    rw [iRng1_ev, mC_ev, bind_ok, dRng1_ok _ (by omega) (by omega)]
    rfl
  have d0 : Dis [(.str u, .int 0)] (st0 [u]) := ⟨fun x => by
    unfold getD st0
    rw [List.find?_cons]
    simp only [eqv_str]
    by_cases q : u = x
    · subst q; simp
    · have : (u == x) = false := by simpa using q
      simp [this, Ne.symm q]⟩
  obtain ⟨t', es2, e, of, d2⟩ := ld_rounds (b := false) (i := 5) (B := mOp dPow (mC (.int 10)) (mC (.int 6))) (big := 1000000) (c := c) o ei (Nat.le_refl 8) rfl rfl (by decide) (by decide) (by simp) (get_last h (.dict _)) d0 (fun t h => by simp [dPow]) (by simp)
  rw [set_last] at e
  have v2 : t'[2]? = some (some (.ref h.length)) := of.same 2 (by decide)
  have v1 : t'[1]? = some (some (.str u)) := of.same 1 (by decide)
  have v0 : t'[0]? = some (some f.D) := of.same 0 (by decide)
  have tl : t'.length = 7 := of.len
  obtain ⟨g, hg⟩ : ∃ g, g = relN false 1000000 f (st0 [u]) 8 := ⟨_, rfl⟩
  rw [← hg] at d2
  have hd : (h ++ [O.dict es2])[h.length]? = some (.dict es2) := get_last h _
  have em : mComp false (iVal (mOp dIx (mVar 0) (mC (.int 1)))) (.nm 6) [6] (tCmp (mOp (dIn false) (mVar 6) (mVar 2))) (mOp dIx (mVar 2) (mVar 6)) c t' (h ++ [.dict es2]) = .ok (.lst ((f.cl.filterMap g).map D.int)) (h ++ [.dict es2]) := by
    have ei : iVal (mOp dIx (mVar 0) (mC (.int 1))) c t' (h ++ [.dict es2]) = .ok ⟨f.cl.map D.str, none⟩ (h ++ [.dict es2]) := by
      simp only [iVal_ev, mOp_ev, mVar_ev, v0, bind_ok, mC_ev, f1]
      simp [dIter]
    unfold mComp
    rw [ei, bind_ok, comp_pure (s := ⟨f.cl.map D.str, none⟩) trivial (f := fun d => getD es2 d) (f.cl.map D.str) (by
      intro d hd'
      obtain ⟨x, _, rfl⟩ := List.mem_map.mp hd'
      have v6 : ((wipeT t' [6]).set 6 (some (D.str x)))[6]? = some (some (.str x)) := List.getElem?_set_self (by simp [wipeT, tl])
      have v2' : ((wipeT t' [6]).set 6 (some (D.str x)))[2]? = some (some (.ref h.length)) := by simp [wipeT, List.getElem?_set_ne, v2]
      have i1 := in_dict (n := false) (x := x) hd
      unfold stepC asg
      simp only [tCmp_ev, mOp_ev, mVar_ev, v6, v2', bind_ok, i1, Bool.false_bne, dBl_ev]
      cases q : getD es2 (.str x) with
      | none => rfl
      | some d =>
        have ed := ix_dict hd q
        simp only [Option.isSome_some, if_true, mOp_ev, mVar_ev, v6, v2', bind_ok, ed]
        rfl), bind_ok]
    have e2 : (f.cl.map D.str).filterMap (fun d => getD es2 d) = (f.cl.filterMap g).map D.int := by
      rw [List.filterMap_map, List.map_filterMap]
      congr 1
      funext x
      exact d2.at_ x
    rw [e2]
    refine freshF _ ?_
    have := List.length_filterMap_le g f.cl
    have := o.c8
    rw [List.length_map]; omega
  have s4 : sSet 4 (mComp false (iVal (mOp dIx (mVar 0) (mC (.int 1)))) (.nm 6) [6] (tCmp (mOp (dIn false) (mVar 6) (mVar 2))) (mOp dIx (mVar 2) (mVar 6))) c t' (h ++ [.dict es2]) = .nx (t'.set 4 (some (.lst ((f.cl.filterMap g).map D.int)))) (h ++ [.dict es2]) := by
    rw [sSet_ev, em, toS_ok]
  have v4 : (t'.set 4 (some (.lst ((f.cl.filterMap g).map D.int))))[4]? = some (some (.lst ((f.cl.filterMap g).map D.int))) := List.getElem?_set_self (by rw [tl]; decide)
  generalize t'.set 4 (some (.lst ((f.cl.filterMap g).map D.int))) = t4 at s4 v4
  obtain ⟨b1, b2⟩ := both_least o h0 hu (n := f.st.length) (big := 1000000000) (big' := 1000000) (by omega) (by omega) (by omega)
  rw [← hg] at b1 b2
  obtain ⟨L, hL⟩ : ∃ L, L = f.cl.filterMap g := ⟨_, rfl⟩
  rw [← hL] at v4
  rw [hb, sSeq_ev, s1, seq_nx, sSeq_ev, e, seq_nx, sSeq_ev, s4, seq_nx, sSeq_ev, sIf_ev]
  have gl : gLen [.lst (L.map D.int)] (h ++ [.dict es2]) = .ok (.int (L.length : Nat)) (h ++ [.dict es2]) := by simp [gLen, D.dict?, D.see]
  have tt : tCmp (mOp (dEq false) (mB gLen (aCons (mVar 4) aNil)) (mC (.int 0))) c t4 (h ++ [.dict es2]) = .ok (decide (L = [])) (h ++ [.dict es2]) := by
    simp only [tCmp_ev, mOp_ev, mB_ev, aCons_ev, mVar_ev, v4, bind_ok, aNil_ev, gl, mC_ev]
    cases L with
    | nil => simp [dEq, cmpOk, D.plain, near, D.dep, D.see]
    | cons a L => simp [dEq, cmpOk, D.plain, near, D.dep, D.see]; omega
  rw [tt, toS_ok]
  cases L with
  | nil =>
    rw [decide_eq_true rfl, if_pos rfl]
    have : relN true 1000000000 f (st0 f.cl) f.st.length u = none := by
      rw [b1]
      intro c hc
      cases q : g c with
      | none => rfl
      | some d =>
        have : d ∈ f.cl.filterMap g := List.mem_filterMap.mpr ⟨c, hc, q⟩
        rw [← hL] at this
        exact absurd this (by simp)
    rw [this]
    simp only [sRet_ev, mC_ev, toS_ok, seq_rt, fin_rt]
    exact fin1_app (lo_non _)
  | cons a L =>
    rw [decide_eq_false (by simp), if_neg (by decide), sNil_ev, seq_nx, sRet_ev, mB_ev, aCons_ev]
    simp only [mVar_ev, v4, bind_ok, aNil_ev, min_ints, toS_ok, fin_rt]
    obtain ⟨m1, m2⟩ := fold_min L a
    have : relN true 1000000000 f (st0 f.cl) f.st.length u = some (L.foldl min a) := by
      rw [hL] at m1 m2
      obtain ⟨c0, hc0, ec0⟩ := List.mem_filterMap.mp m1
      cases q : relN true 1000000000 f (st0 f.cl) f.st.length u with
      | none =>
        have := b1.mp q c0 hc0
        rw [this] at ec0; cases ec0
      | some d =>
        obtain ⟨⟨c1, hc1, ec1⟩, b3⟩ := b2 d q
        have l1 := b3 c0 hc0 _ ec0
        have l2 := m2 d (List.mem_filterMap.mpr ⟨c1, hc1, ec1⟩)
        congr 1; omega
    rw [this]
    exact fin1_app (lo_int _ _)
end K04

namespace K04
open PySem L2 Ev
/-! ### words of walks -/
abbrev Word := List (List Nat)
/-- the names of a walk from x to v -/
inductive Wd (f : Flow) (v : List Nat) : List Nat → Word → Prop
  | nil : Wd f v v []
  | cons {w : Way} {ns : Word} : w ∈ f.ws → Wd f v w.t ns → Wd f v w.s (w.n :: ns)
theorem Wd.inv {f : Flow} {v x n : List Nat} {ns : Word} (h : Wd f v x (n :: ns)) : ∃ w ∈ f.ws, w.s = x ∧ w.n = n ∧ Wd f v w.t ns := by
  generalize e : n :: ns = ms at h
  cases h with
  | nil => cases e
  | @cons w ns' hw hh => cases e; exact ⟨w, hw, rfl, rfl, hh⟩
theorem Wd.inv0 {f : Flow} {v x : List Nat} (h : Wd f v x []) : x = v := by
  generalize e : ([] : Word) = ms at h
  cases h with
  | nil => rfl
  | cons => cases e
theorem Wd.snoc {f : Flow} {x v : List Nat} {ns : Word} (h : Wd f v x ns) {w : Way} (hw : w ∈ f.ws) (e : w.s = v) : Wd f w.t x (ns ++ [w.n]) := by
  induction h with
  | nil =>
    subst e
    exact .cons hw .nil
  | cons hw' _ ih => exact .cons hw' ih
theorem Wd.last {f : Flow} {x v : List Nat} : ∀ (ns : Word) (n : List Nat), Wd f v x (ns ++ [n]) → ∃ w ∈ f.ws, w.t = v ∧ w.n = n ∧ Wd f w.s x ns
  | [], n, h => by
    obtain ⟨w, hw, e1, e2, h'⟩ := h.inv
    exact ⟨w, hw, h'.inv0, e2, e1 ▸ .nil⟩
  | m :: ns, n, h => by
    obtain ⟨w, hw, e1, e2, h'⟩ := h.inv
    obtain ⟨w', hw', i1, i2, i3⟩ := Wd.last ns n h'
    subst e1 e2
    exact ⟨w', hw', i1, i2, .cons hw i3⟩
/-- the least number of ways from x to v -/
def Dst (f : Flow) (v x : List Nat) (k : Nat) : Prop := (∃ ns, Wd f v x ns ∧ ns.length = k) ∧ ∀ ms, Wd f v x ms → k ≤ ms.length
theorem Dst.uniq {f : Flow} {v x : List Nat} {j k : Nat} (a : Dst f v x j) (b : Dst f v x k) : j = k := by
  obtain ⟨⟨ns, h1, l1⟩, m1⟩ := a
  obtain ⟨⟨ms, h2, l2⟩, m2⟩ := b
  have := m1 ms h2
  have := m2 ns h1
  omega
theorem Dst.ex {f : Flow} {v x : List Nat} : ∀ (n : Nat) (ns : Word), ns.length ≤ n → Wd f v x ns → ∃ k, k ≤ ns.length ∧ Dst f v x k
  | 0, ns, hn, h => ⟨ns.length, Nat.le_refl _, ⟨ns, h, rfl⟩, fun ms _ => by omega⟩
  | n + 1, ns, hn, h => by
    by_cases q : ∃ ms, Wd f v x ms ∧ ms.length < ns.length
    · obtain ⟨ms, hm, l⟩ := q
      obtain ⟨k, h1, h2⟩ := Dst.ex n ms (by omega) hm
      exact ⟨k, by omega, h2⟩
    · exact ⟨ns.length, Nat.le_refl _, ⟨ns, h, rfl⟩, fun ms hm => by
        rcases Nat.lt_or_ge ms.length ns.length with l | l
        · exact absurd ⟨ms, hm, l⟩ q
        · exact l⟩
theorem Dst.pred {f : Flow} {v x : List Nat} {k : Nat} (h : Dst f v x (k + 1)) : ∃ w ∈ f.ws, w.s = x ∧ Dst f v w.t k := by
  obtain ⟨⟨ns, h1, l1⟩, m1⟩ := h
  cases ns with
  | nil => simp at l1
  | cons n ns =>
    obtain ⟨w, hw, e1, e2, h'⟩ := h1.inv
    rw [List.length_cons] at l1
    refine ⟨w, hw, e1, ⟨ns, h', by omega⟩, fun ms hm => ?_⟩
    have := m1 (w.n :: ms) (e1 ▸ .cons hw hm)
    rw [List.length_cons] at this
    omega
theorem Dst.zero {f : Flow} {v x : List Nat} (h : Dst f v x 0) : x = v := by
  obtain ⟨⟨ns, h1, l1⟩, _⟩ := h
  cases ns with
  | nil => exact h1.inv0
  | cons => simp at l1
theorem Dst.self (f : Flow) (v : List Nat) : Dst f v v 0 := ⟨⟨[], .nil, rfl⟩, fun _ _ => Nat.zero_le _⟩
theorem Dst.path {f : Flow} (o : f.ok) {v : List Nat} (hv : v ∈ f.st) : ∀ (k : Nat) (x : List Nat), Dst f v x k → ∃ p : List (List Nat), p.length = k + 1 ∧ p.Nodup ∧ ∀ y ∈ p, y ∈ f.st ∧ ∃ j, j ≤ k ∧ Dst f v y j
  | 0, x, h => by
    have := h.zero
    subst this
    exact ⟨[x], rfl, by simp, fun y hy => by rw [List.mem_singleton.mp hy]; exact ⟨hv, 0, Nat.le_refl _, h⟩⟩
  | k + 1, x, h => by
    obtain ⟨w, hw, e1, h'⟩ := h.pred
    obtain ⟨p, l, nd, hp⟩ := Dst.path o hv k w.t h'
    refine ⟨x :: p, by rw [List.length_cons, l], List.nodup_cons.mpr ⟨fun hx => ?_, nd⟩, fun y hy => ?_⟩
    · obtain ⟨_, j, hj, d⟩ := hp x hx
      have := d.uniq h
      omega
    · rcases List.mem_cons.mp hy with rfl | hy
      · exact ⟨e1 ▸ o.src w hw, k + 1, Nat.le_refl _, h⟩
      · obtain ⟨h1, j, hj, d⟩ := hp y hy
        exact ⟨h1, j, by omega, d⟩
theorem Dst.few {f : Flow} (o : f.ok) {v x : List Nat} {k : Nat} (hv : v ∈ f.st) (h : Dst f v x k) : k + 1 ≤ f.st.length := by
  obtain ⟨p, l, nd, hp⟩ := Dst.path o hv k x h
  have := nodup_le nd fun y hy => (hp y hy).1
  omega
/-! distances -/
def dsx (c : Nat) (g : Di) (w : Way) : Di := if g w.s = none ∧ g w.t = some (c : Int) then fun x => if w.s = x then some (((c + 1 : Nat) : Int)) else g x else g
/-- what a round tells after the ways `done` -/
structure Rd1 (c : Nat) (g a : Di) (done : List Way) : Prop where
  old : ∀ x z, g x = some z → a x = some z
  new : ∀ x, g x = none → (a x = none ∧ ∀ w ∈ done, w.s = x → g w.t ≠ some (c : Int)) ∨ (a x = some (((c + 1 : Nat) : Int)) ∧ ∃ w ∈ done, w.s = x ∧ g w.t = some (c : Int))
theorem Rd1.step {c : Nat} {g a : Di} {done : List Way} (r : Rd1 c g a done) (w : Way) : Rd1 c g (dsx c a w) (done ++ [w]) := by
  have ht : a w.t = some (c : Int) ↔ g w.t = some (c : Int) := by
    constructor
    · intro h
      cases q : g w.t with
      | some z => rw [r.old _ _ q] at h; exact h
      | none =>
        rcases r.new _ q with ⟨h1, _⟩ | ⟨h1, _⟩
        · rw [h1] at h; cases h
        · rw [h1] at h; injection h with h; omega
    · exact r.old _ _
  by_cases q : a w.s = none ∧ a w.t = some (c : Int)
  · have e : dsx c a w = fun x => if w.s = x then some (((c + 1 : Nat) : Int)) else a x := if_pos q
    rw [e]
    refine ⟨fun x z hx => ?_, fun x hx => ?_⟩
    · show (if w.s = x then _ else a x) = _
      by_cases p : w.s = x
      · have := r.old _ _ hx
        rw [p, this] at q; cases q.1
      · rw [if_neg p]; exact r.old _ _ hx
    · show ((if w.s = x then some (((c + 1 : Nat) : Int)) else a x) = none ∧ _) ∨ ((if w.s = x then some (((c + 1 : Nat) : Int)) else a x) = _ ∧ _)
      by_cases p : w.s = x
      · rw [if_pos p]
        exact .inr ⟨rfl, w, by simp, p, ht.mp q.2⟩
      · rw [if_neg p]
        rcases r.new x hx with ⟨h1, h2⟩ | ⟨h1, w', hw', h2⟩
        · refine .inl ⟨h1, fun v hv => ?_⟩
          rcases List.mem_append.mp hv with hv | hv
          · exact h2 v hv
          · rw [List.mem_singleton.mp hv]; exact fun z => absurd z p
        · exact .inr ⟨h1, w', List.mem_append_left _ hw', h2⟩
  · have e : dsx c a w = a := if_neg q
    rw [e]
    refine ⟨r.old, fun x hx => ?_⟩
    rcases r.new x hx with ⟨h1, h2⟩ | ⟨h1, w', hw', h2⟩
    · refine .inl ⟨h1, fun v hv => ?_⟩
      rcases List.mem_append.mp hv with hv | hv
      · exact h2 v hv
      · rw [List.mem_singleton.mp hv]
        intro p hg
        exact q ⟨by rw [p]; exact h1, ht.mpr hg⟩
    · exact .inr ⟨h1, w', List.mem_append_left _ hw', h2⟩
theorem Rd1.fold {c : Nat} {g : Di} : ∀ (ws : List Way) (a : Di) (done : List Way), Rd1 c g a done → Rd1 c g (ws.foldl (dsx c) a) (done ++ ws)
  | [], a, done, r => by rw [List.append_nil]; exact r
  | w :: ws, a, done, r => by
    have := Rd1.fold ws _ _ (r.step w)
    rw [List.append_assoc] at this
    exact this
def dsN (f : Flow) (v : List Nat) : Nat → Di
  | 0 => st0 [v]
  | c + 1 => f.ws.foldl (dsx c) (dsN f v c)
theorem dsN_tells (f : Flow) (v : List Nat) : ∀ (c : Nat) (x : List Nat) (z : Int), dsN f v c x = some z ↔ ∃ k : Nat, z = k ∧ Dst f v x k ∧ k ≤ c
  | 0, x, z => by
    unfold dsN st0
    by_cases q : x = v
    · subst q
      simp only [List.mem_singleton, if_true]
      constructor
      · intro h; injection h with h; exact ⟨0, by omega, Dst.self f x, Nat.le_refl _⟩
      · rintro ⟨k, h1, h2, h3⟩; rw [h1]; congr 1; omega
    · simp only [List.mem_singleton, q, if_false]
      constructor
      · intro h; cases h
      · rintro ⟨k, h1, h2, h3⟩
        have : k = 0 := by omega
        subst this
        exact absurd h2.zero q
  | c + 1, x, z => by
    have ih := dsN_tells f v c
    have r : Rd1 c (dsN f v c) (dsN f v (c + 1)) f.ws := by
      have := Rd1.fold (c := c) (g := dsN f v c) f.ws (dsN f v c) [] ⟨fun _ _ h => h, fun x h => .inl ⟨h, fun w hw => absurd hw (by simp)⟩⟩
      exact this
    cases q : dsN f v c x with
    | some y =>
      rw [r.old _ _ q]
      obtain ⟨k, h1, h2, h3⟩ := (ih x y).mp q
      constructor
      · intro h; injection h with h; exact ⟨k, by omega, h2, by omega⟩
      · rintro ⟨k', h1', h2', h3'⟩
        have := h2.uniq h2'
        congr 1; omega
    | none =>
      have no : ∀ k, Dst f v x k → c < k := fun k hk => by
        rcases Nat.lt_or_ge c k with h | h
        · exact h
        · rw [(ih x k).mpr ⟨k, rfl, hk, h⟩] at q; cases q
      rcases r.new x q with ⟨h1, h2⟩ | ⟨h1, w, hw, e, h2⟩
      · rw [h1]
        constructor
        · intro h; cases h
        · rintro ⟨k, e1, d, l⟩
          have := no k d
          have : k = c + 1 := by omega
          subst this
          obtain ⟨w, hw, e, d'⟩ := d.pred
          exact absurd ((ih w.t c).mpr ⟨c, rfl, d', Nat.le_refl _⟩) (h2 w hw e)
      · rw [h1]
        obtain ⟨j, j1, j2, j3⟩ := (ih w.t c).mp h2
        have : j = c := by omega
        subst this
        obtain ⟨⟨ns, g1, g2⟩, _⟩ := j2
        have hd : Dst f v x (j + 1) := by
          have hw1 : Wd f v x (w.n :: ns) := e ▸ .cons hw g1
          obtain ⟨k, l1, d⟩ := Dst.ex _ _ (Nat.le_refl _) hw1
          have := no k d
          rw [List.length_cons] at l1
          have : k = j + 1 := by omega
          exact this ▸ d
        constructor
        · intro h; injection h with h; exact ⟨j + 1, by omega, hd, Nat.le_refl _⟩
        · rintro ⟨k, e1, d, l⟩
          have := d.uniq hd
          congr 1; omega
theorem dsN_all {f : Flow} (o : f.ok) {v : List Nat} (hv : v ∈ f.st) {c : Nat} (hc : f.st.length ≤ c + 1) (x : List Nat) (z : Int) : dsN f v c x = some z ↔ ∃ k : Nat, z = k ∧ Dst f v x k := by
  rw [dsN_tells]
  constructor
  · rintro ⟨k, h1, h2, _⟩; exact ⟨k, h1, h2⟩
  · rintro ⟨k, h1, h2⟩; have := h2.few o hv; exact ⟨k, h1, h2, by omega⟩
/-! the least of the shortest -/
def Best (f : Flow) (v x : List Nat) (ns : Word) : Prop := Wd f v x ns ∧ ∀ ms, Wd f v x ms → ns.length ≤ ms.length ∧ (ms.length = ns.length → ¬ ms < ns)
theorem Best.uniq {f : Flow} {v x : List Nat} {ns ms : Word} (a : Best f v x ns) (b : Best f v x ms) : ns = ms := by
  obtain ⟨l1, o1⟩ := a.2 ms b.1
  obtain ⟨l2, o2⟩ := b.2 ns a.1
  exact List.le_antisymm (List.not_lt.mp (o1 (by omega))) (List.not_lt.mp (o2 (by omega)))
theorem Best.dst {f : Flow} {v x : List Nat} {ns : Word} (a : Best f v x ns) : Dst f v x ns.length := ⟨⟨ns, a.1, rfl⟩, fun ms hm => (a.2 ms hm).1⟩
/-- the least step, then the best -/
theorem Best.cons {f : Flow} (uq : ∀ w ∈ f.ws, ∀ w' ∈ f.ws, w.n = w'.n → w.s = w'.s → w = w') {v : List Nat} {w : Way} {k : Nat} (hw : w ∈ f.ws) (hd : Dst f v w.s (k + 1)) (ht : Dst f v w.t k)
    (hl : ∀ w' ∈ f.ws, w'.s = w.s → Dst f v w'.t k → ¬ w'.n < w.n) {ns : Word} (h : Best f v w.t ns) : Best f v w.s (w.n :: ns) := by
  have hk := h.dst.uniq ht
  refine ⟨.cons hw h.1, fun ms hm => ?_⟩
  have l := hd.2 ms hm
  refine ⟨by rw [List.length_cons]; omega, fun hlen hlt => ?_⟩
  rw [List.length_cons] at hlen
  cases ms with
  | nil => simp at l
  | cons m ms =>
    obtain ⟨w', hw', e1, e2, h'⟩ := hm.inv
    rw [List.length_cons] at hlen
    have d' : Dst f v w'.t k := ⟨⟨ms, h', by omega⟩, fun ms' hms' => by
      have := hd.2 (w'.n :: ms') (e1 ▸ .cons hw' hms')
      rw [List.length_cons] at this
      omega⟩
    rcases List.cons_lt_cons_iff.mp hlt with q | ⟨q, q2⟩
    · exact hl w' hw' e1 d' (e2 ▸ q)
    · have : w' = w := uq w' hw' w hw (e2.trans q) e1
      subst this
      exact (h.2 ms h').2 (by omega) q2
end K04

namespace K04
open PySem L2 Ev
/-! ### distances: the walk -/
theorem eq_i (a b : Int) (h : Hd) : dEq false (.int a) (.int b) h = .ok (.bl (decide (a = b))) h := by
  simp [dEq, cmpOk, D.plain, near, D.dep, D.see]
  by_cases q : a = b <;> simp [q]
abbrev dsIn : MS := (sIf (tAnd (tCmp (mOp (dIn true) (mOp dIx (mVar 4) (mC (.int 1))) (mVar 2))) (tCmp (mOp (dEq false) (mMt kGet (mVar 2) (aCons (mOp dIx (mVar 4) (mC (.int 2))) (aCons (mC k_NEVER) aNil))) (mOp dSub (mVar 3) (mC (.int 1))))))
  (sPut (mVar 2) (mOp dIx (mVar 4) (mC (.int 1))) (mVar 3))
  sNil)
theorem ds_in {c : Calls} {t : Tau} {h : Hd} {K : Nat} {es : List (Ev.D × Ev.D)} {g : Di} {w : Way} {s : Nat} {z : Int} (hz0 : z = ((s + 1 : Nat) : Int)) (hs : s ≤ 100) (t2 : t[2]? = some (some (.ref K))) (t3 : t[3]? = some (some (.int z))) (t4 : t[4]? = some (some w.D)) (hK : h[K]? = some (.dict es)) (dg : Dis es g) (hz : es.length ≤ 1000) :
    ∃ es2, dsIn c t h = .nx t (h.set K (.dict es2)) ∧ Dis es2 (dsx s g w) ∧ es2.length ≤ es.length + 1 := by
  have i1 := in_dict (n := true) (x := w.s) hK
  have e1 : tCmp (mOp (dIn true) (mOp dIx (mVar 4) (mC (.int 1))) (mVar 2)) c t h = .ok (true != (g w.s).isSome) h := by
    simp only [tCmp_ev, mOp_ev, mVar_ev, t4, t2, bind_ok, mC_ev, w1, i1, dBl_ev, dg.at_, Option.isSome_map]
  have eg2 := get2_dict (K := K) hK (cl := c) (t := t) (mo := mVar 2) (ma := mOp dIx (mVar 4) (mC (.int 2))) (mb := mC k_NEVER) (k := w.t) (z := .int 1000000000) (by simp only [mVar_ev, t2]) (by simp only [mOp_ev, mVar_ev, t4, bind_ok, mC_ev, w2]) rfl
  have gv : (getD es (.str w.t)).getD (.int 1000000000) = .int ((g w.t).getD 1000000000) := by
    rw [dg.at_]
    cases g w.t <;> rfl
  rw [gv] at eg2
  have es3 : mOp dSub (mVar 3) (mC (.int 1)) c t h = .ok (.int (z - 1)) h := by
    simp only [mOp_ev, mVar_ev, t3, bind_ok, mC_ev]
    rfl
  have e2 : tCmp (mOp (dEq false) (mMt kGet (mVar 2) (aCons (mOp dIx (mVar 4) (mC (.int 2))) (aCons (mC k_NEVER) aNil))) (mOp dSub (mVar 3) (mC (.int 1)))) c t h = .ok (decide (g w.t = some (s : Int))) h := by
    rw [tCmp_ev, mOp_ev, eg2, bind_ok, es3, bind_ok, eq_i, bind_ok, dBl_ev]
    congr 1
    cases q : g w.t with
    | none =>
      have : (1000000000 : Int) ≠ z - 1 := by omega
      simp [this]
    | some d =>
      have e : z - 1 = (s : Int) := by omega
      rw [e]
      simp
  have stay : dsIn c t h = .nx t h → dsx s g w = g → ∃ es2, dsIn c t h = .nx t (h.set K (.dict es2)) ∧ Dis es2 (dsx s g w) ∧ es2.length ≤ es.length + 1 := fun e r =>
    ⟨es, by rw [e, set_self hK], by rw [r]; exact dg, by omega⟩
  cases eg : g w.s with
  | some d =>
    refine stay ?_ (if_neg (fun q => by rw [eg] at q; cases q.1))
    rw [eg] at e1
    unfold dsIn
    rw [sIf_ev, tAnd_ev, e1]
    rfl
  | none =>
    rw [eg, show (true != (none : Option Int).isSome) = true from rfl] at e1
    by_cases q : g w.t = some (s : Int)
    · have ev : mVar 3 c t h = .ok (.int z) h := by simp only [mVar_ev, t3]
      have pt := put_at (c := c) (t := t) (h := h) (i := 2) (K := K) (mk := mOp dIx (mVar 4) (mC (.int 1))) (mv := mVar 3) (k := w.s) t2 hK (by simp only [mOp_ev, mVar_ev, t4, bind_ok, mC_ev, w1]) ev (by omega)
      refine ⟨_, ?_, ⟨fun x => ?_⟩, putD_len es (.str w.s) (.int z)⟩
      · unfold dsIn
        rw [sIf_ev, tAnd_ev, e1, bind_ok, if_pos rfl, e2, decide_eq_true q, toS_ok, if_pos rfl]
        exact pt
      · rw [getD_putS, show dsx s g w = fun x => if w.s = x then some (((s + 1 : Nat) : Int)) else g x from if_pos ⟨eg, q⟩]
        show _ = (if w.s = x then some (((s + 1 : Nat) : Int)) else g x).map D.int
        by_cases r : w.s = x
        · rw [if_pos r, if_pos r, hz0]; rfl
        · rw [if_neg r, if_neg r]; exact dg.at_ x
    · refine stay ?_ (if_neg (fun z => q z.2))
      unfold dsIn
      rw [sIf_ev, tAnd_ev, e1, bind_ok, if_pos rfl, e2, decide_eq_false q, toS_ok, if_neg (by decide)]
      rfl
theorem ds_for {f : Flow} (o : f.ok) {c : Calls} {t : Tau} {h : Hd} {K : Nat} {es : List (Ev.D × Ev.D)} {g : Di} {s : Nat} {z : Int} (hz0 : z = ((s + 1 : Nat) : Int)) (hs : s ≤ 100) (tl : t.length = 5) (t0 : t[0]? = some (some f.D)) (t2 : t[2]? = some (some (.ref K))) (t3 : t[3]? = some (some (.int z))) (hK : h[K]? = some (.dict es)) (dg : Dis es g)
    (hz : es.length ≤ 900) :
    ∃ t' es2, sFor (iVal (mOp dIx (mVar 0) (mC (.int 2)))) (.nm 4) dsIn c t h = .nx t' (h.set K (.dict es2)) ∧ Off [4] t t' ∧ Dis es2 (f.ws.foldl (dsx s) g) ∧ es2.length ≤ es.length + 16 := by
  have hKl := (List.getElem?_eq_some_iff.mp hK).1
  have ei : iVal (mOp dIx (mVar 0) (mC (.int 2))) c t h = .ok ⟨f.ws.map Way.D, none⟩ h := by
    simp only [iVal_ev, mOp_ev, mVar_ev, t0, bind_ok, mC_ev, f2]
    simp [dIter]
  have ol := o.w16
  refine sFor_gen (b := dsIn) (g := .nm 4) (I := fun ds t' h' => ∃ (todo : List Way) (es' : List (Ev.D × Ev.D)) (a : Di), ds = todo.map Way.D ∧ Off [4] t t' ∧ h' = h.set K (.dict es') ∧ Dis es' a ∧ todo.foldl (dsx s) a = f.ws.foldl (dsx s) g ∧ es'.length + todo.length ≤ es.length + 16)
    (O := fun z => ∃ t' es2, z = .nx t' (h.set K (.dict es2)) ∧ Off [4] t t' ∧ Dis es2 (f.ws.foldl (dsx s) g) ∧ es2.length ≤ es.length + 16) ei ?_ ?_ ?_
  · rintro d ds t' h' ⟨todo, es', a, hd, of, rfl, na, ef, hz'⟩
    cases todo with
    | nil => simp at hd
    | cons w todo =>
      rw [List.map_cons] at hd
      obtain ⟨rfl, rfl⟩ := List.cons.inj hd
      rw [List.length_cons] at hz'
      have of' : Off [4] t (t'.set 4 (some w.D)) := of.set (by simp)
      have ti : (t'.set 4 (some w.D))[4]? = some (some w.D) := List.getElem?_set_self (by rw [of.len, tl]; decide)
      have t2' : (t'.set 4 (some w.D))[2]? = some (some (.ref K)) := by rw [of'.same 2 (by decide)]; exact t2
      have t3' : (t'.set 4 (some w.D))[3]? = some (some (.int z)) := by rw [of'.same 3 (by decide)]; exact t3
      have hK' : (h.set K (.dict es'))[K]? = some (.dict es') := List.getElem?_set_self hKl
      obtain ⟨es2, e, n2, l2⟩ := ds_in (c := c) (w := w) hz0 hs t2' t3' ti hK' na (by omega)
      refine ⟨trivial, t'.set 4 (some w.D), rfl, ?_⟩
      rw [e, List.set_set]
      exact .nx ⟨todo, es2, _, rfl, of', rfl, n2, by rw [← ef]; rfl, by omega⟩
  · rintro t' h' ⟨todo, es', a, hd, of, rfl, na, ef, hz'⟩
    cases todo with
    | cons w todo => simp at hd
    | nil =>
      have ef : a = f.ws.foldl (dsx s) g := ef
      exact ⟨trivial, t', es', rfl, of, ef ▸ na, by simpa using hz'⟩
  · exact ⟨f.ws, es, g, rfl, Off.refl _ _, by rw [set_self hK], dg, rfl, by omega⟩
theorem dRng2_ok {i j : Int} (h : Hd) (h1 : -1000000000 ≤ i) (h2 : i < 1000000000) (h3 : -1000000000 ≤ j) (h4 : j < 1000000000) : dRng2 (.int i) (.int j) h = .ok ⟨rngD i (j - i).toNat, none⟩ h := by
  have a1 : -4611686018427387904 ≤ i := by omega
  have a2 : i < 4611686018427387904 := by omega
  have a3 : -4611686018427387904 ≤ j := by omega
  have a4 : j < 4611686018427387904 := by omega
  simp [dRng2, a1, a2, a3, a4]
theorem c_dist {n : Nat} (hn : 1 ≤ n) {f : Flow} (o : f.ok) (v : List Nat) (h : Hd) :
    ∃ es, callN T n 8 [f.D, .str v] h = .ok (.ref h.length) (h ++ [.dict es]) ∧ Dis es (dsN f v (f.st.length - 1)) := by
  obtain ⟨m, rfl⟩ := lvl hn
  rw [call_at (F := ⟨2, 5, b_distances⟩) rfl]
  generalize callN T m = c
  have ea : ([f.D, .str v].map some ++ List.replicate (5 - 2) (none : Option Ev.D)) = [some f.D, some (.str v), none, none, none] := rfl
  rw [runFn_at (np := 2) (nn := 5) rfl ea]
  have hb : b_distances = sSeq (sSet 2 (mDict1 (mVar 1) (mC (.int 0)))) (sSeq (sFor (iRng2 (mC (.int 1)) (mB gLen (aCons (mOp dIx (mVar 0) (mC (.int 0))) aNil))) (.nm 3) (sFor (iVal (mOp dIx (mVar 0) (mC (.int 2)))) (.nm 4) dsIn)) (sRet (mVar 2))) := rfl
  have s1 : sSet 2 (mDict1 (mVar 1) (mC (.int 0))) c [some f.D, some (.str v), none, none, none] h = .nx [some f.D, some (.str v), some (.ref h.length), none, none] (h ++ [.dict [(.str v, .int 0)]]) := by
    simp [dOne, keyOk]
  obtain ⟨t, ht⟩ : ∃ t : Tau, t = [some f.D, some (.str v), some (.ref h.length), none, none] := ⟨_, rfl⟩
  have tl : t.length = 5 := by rw [ht]; rfl
  have t0 : t[0]? = some (some f.D) := by rw [ht]; rfl
  have t2 : t[2]? = some (some (.ref h.length)) := by rw [ht]; rfl
  obtain ⟨z, hz⟩ : ∃ z : Int, z = (f.st.length : Nat) := ⟨_, rfl⟩
  have s8 := o.s8
  obtain ⟨N, hN⟩ : ∃ N, N = f.st.length - 1 := ⟨_, rfl⟩
  have ei : iRng2 (mC (.int 1)) (mB gLen (aCons (mOp dIx (mVar 0) (mC (.int 0))) aNil)) c t (h ++ [.dict [(.str v, .int 0)]]) = .ok ⟨rngD 1 N, none⟩ (h ++ [.dict [(.str v, .int 0)]]) := by
    have g1 : mB gLen (aCons (mOp dIx (mVar 0) (mC (.int 0))) aNil) c t (h ++ [.dict [(.str v, .int 0)]]) = .ok (.int z) (h ++ [.dict [(.str v, .int 0)]]) := by
      rw [hz]
      simp only [mB_ev, aCons_ev, mOp_ev, mVar_ev, t0, bind_ok, mC_ev, f0, aNil_ev, len_strs, List.length_map]
    rw [iRng2_ev, mC_ev, bind_ok, g1, bind_ok, dRng2_ok _ (by omega) (by omega) (by omega) (by omega), show (z - 1).toNat = N by omega]
  have d0 : Dis [(.str v, .int 0)] (st0 [v]) := ⟨fun x => by
    unfold getD st0
    rw [List.find?_cons]
    simp only [eqv_str]
    by_cases q : v = x
    · subst q; simp
    · have : (v == x) = false := by simpa using q
      simp [this, Ne.symm q]⟩
  obtain ⟨t', es2, e, v2, d2⟩ := sFor_gen (b := sFor (iVal (mOp dIx (mVar 0) (mC (.int 2)))) (.nm 4) dsIn) (g := .nm 3) (I := fun ds t' h' => ∃ (s m : Nat) (es' : List (Ev.D × Ev.D)), ds = (List.range' s m).map (fun (k : Nat) => D.int (1 + (k : Int))) ∧ s + m = N ∧ Off [3, 4] t t' ∧ h' = h ++ [.dict es'] ∧ Dis es' (dsN f v s) ∧ es'.length ≤ 1 + 16 * s)
    (O := fun z => ∃ t' es2, z = .nx t' (h ++ [.dict es2]) ∧ t'[2]? = some (some (.ref h.length)) ∧ Dis es2 (dsN f v N)) ei
    (by
      rintro d ds t' h' ⟨s, m, es', hd, hsm, of, rfl, na, hz'⟩
      cases m with
      | zero => simp at hd
      | succ m =>
        rw [List.range'_succ, List.map_cons] at hd
        obtain ⟨rfl, rfl⟩ := List.cons.inj hd
        have of' : Off [3, 4] t (t'.set 3 (some (.int (1 + (s : Int))))) := of.set (by simp)
        have t3' : (t'.set 3 (some (.int (1 + (s : Int)))))[3]? = some (some (.int (1 + (s : Int)))) := List.getElem?_set_self (by rw [of.len, tl]; decide)
        have t0' : (t'.set 3 (some (.int (1 + (s : Int)))))[0]? = some (some f.D) := by rw [of'.same 0 (by decide)]; exact t0
        have t2' : (t'.set 3 (some (.int (1 + (s : Int)))))[2]? = some (some (.ref h.length)) := by rw [of'.same 2 (by decide)]; exact t2
        obtain ⟨t3, es2, e, of3, n2, l2⟩ := ds_for (s := s) (z := 1 + (s : Int)) (c := c) o (by omega) (by omega) (by rw [of'.len]; exact tl) t0' t2' t3' (get_last h (.dict es')) na (by omega)
        refine ⟨trivial, t'.set 3 (some (.int (1 + (s : Int)))), rfl, ?_⟩
        rw [e, set_last]
        exact .nx ⟨s + 1, m, es2, rfl, by omega, of'.trans of3 (fun j hj => by simp at hj; simp [hj]), rfl, n2, by omega⟩)
    (by
      rintro t' h' ⟨s, m, es', hd, hsm, of, rfl, na, hz'⟩
      cases m with
      | succ m => simp [List.range'_succ] at hd
      | zero =>
        have : s = N := by omega
        subst this
        exact ⟨trivial, t', es', rfl, by rw [of.same 2 (by decide)]; exact t2, na⟩)
    ⟨0, N, [(.str v, .int 0)], by rw [rngD, List.range_eq_range'], by omega, Off.refl _ _, rfl, d0, by simp⟩
  refine ⟨es2, ?_, hN ▸ d2⟩
  rw [hb, sSeq_ev, s1, seq_nx, sSeq_ev, ← ht, e, seq_nx, sRet_ev]
  simp only [mVar_ev, v2, toS_ok, fin_rt]
  unfold fin1
  rw [if_neg (fun z => by have := z.1; rw [lo_ref] at this; omega)]
end K04

namespace K04
open PySem L2 Ev
open PySem.W (dataLt)
/-! ### comparing tuples of names -/
abbrev wD (ns : Word) : Ev.D := .tup (ns.map D.str)
theorem toPA_strs (ns : Word) : D.toPA (ns.map D.str) = ns.map fun s => PyData.str ⟨s.toArray⟩ := by
  induction ns with
  | nil => rfl
  | cons a r ih => simp [D.toPA, D.toP, ih]
theorem cmpb_strs : ∀ (a b : Word), cmpbA (D.toPA (a.map D.str)) (D.toPA (b.map D.str)) = true
  | [], _ => by simp [D.toPA, cmpbA]
  | _ :: _, [] => by simp [D.toPA, cmpbA]
  | x :: a, y :: b => by
    simp only [List.map_cons, D.toPA, D.toP]
    rw [cmpbA_cons, cmpb_strs a b]
    simp [cmpb]
theorem lt_strs : ∀ (a b : Word), dataLt (.tuple (D.toPA (a.map D.str))) (.tuple (D.toPA (b.map D.str))) = decide (a < b)
  | [], [] => by
    rw [PySem.W.dataLt_tuple]
    simp [D.toPA, PyProof.Rows.lex_irrefl]
  | [], y :: b => by
    rw [PySem.W.dataLt_tuple, ← first_toks _ _ (cmpb_strs [] (y :: b))]
    simp [D.toPA, SeqAt.firstLt]
  | x :: a, [] => by
    rw [PySem.W.dataLt_tuple, ← first_toks _ _ (cmpb_strs (x :: a) [])]
    simp [D.toPA, SeqAt.firstLt]
  | x :: a, y :: b => by
    have ih := lt_strs a b
    rw [PySem.W.dataLt_tuple] at ih ⊢
    simp only [List.map_cons, D.toPA, D.toP]
    by_cases q : x = y
    · subst q
      rw [all_yes (by simp [PyData.eqv]), ih]
      congr 1
      rw [List.cons_lt_cons_iff]
      simp [List.lt_irrefl]
    · rw [all_no (by simp [cmpb]) (by simp [PyData.eqv, q]), PySem.W.dataLt_str]
      show decide (x < y) = _
      congr 1
      rw [List.cons_lt_cons_iff]
      simp [q]
theorem noL_strs (ns : Word) : D.noLA (ns.map D.str) = true := by
  induction ns with
  | nil => rfl
  | cons a r ih => simp [D.noLA, D.noL, ih]
theorem wD_inj {a b : Word} (h : wD a = wD b) : a = b := by
  have : a.map D.str = b.map D.str := by injection h
  exact List.map_inj_right (fun x y h => by injection h) |>.mp this
def minW (a : Word) (r : List Word) : Word := r.foldl (fun m y => if y < m then y else m) a
theorem least_words (a : Word) (r : List Word) : leastD (wD a) (r.map wD) = wD (minW a r) := by
  unfold leastD minW
  induction r generalizing a with
  | nil => rfl
  | cons y r ih =>
    rw [List.map_cons, List.foldl_cons, List.foldl_cons]
    have e : (if dataLt (wD y).toP (wD a).toP = true then wD y else wD a) = wD (if y < a then y else a) := by
      have := lt_strs y a
      have e2 : dataLt (wD y).toP (wD a).toP = decide (y < a) := by simp only [D.toP]; exact this
      by_cases q : y < a
      · rw [decide_eq_true q] at e2
        rw [if_pos e2, if_pos q]
      · rw [decide_eq_false q] at e2
        rw [if_neg (by rw [e2]; decide), if_neg q]
    rw [e, ih]
theorem minW_least (a : Word) (r : List Word) : minW a r ∈ a :: r ∧ ∀ y ∈ a :: r, ¬ y < minW a r := by
  unfold minW
  induction r generalizing a with
  | nil => simp [List.lt_irrefl]
  | cons b r ih =>
    rw [List.foldl_cons]
    obtain ⟨h1, h2⟩ := ih (if b < a then b else a)
    generalize List.foldl (fun m y => if y < m then y else m) (if b < a then b else a) r = M at h1 h2
    refine ⟨?_, fun y hy => ?_⟩
    · rcases List.mem_cons.mp h1 with h | h
      · rw [h]; split <;> simp
      · exact List.mem_cons_of_mem _ (List.mem_cons_of_mem _ h)
    · have h3 := h2 _ (List.mem_cons_self ..)
      have h4 : ¬ b < M ∧ ¬ a < M := by
        by_cases q : b < a
        · rw [if_pos q] at h3
          exact ⟨h3, fun z => h3 (List.lt_trans q z)⟩
        · rw [if_neg q] at h3
          exact ⟨fun z => h3 (List.lt_of_le_of_lt (List.not_lt.mp q) z), h3⟩
      rcases List.mem_cons.mp hy with rfl | hy
      · exact h4.2
      · rcases List.mem_cons.mp hy with rfl | hy
        · exact h4.1
        · exact h2 y (List.mem_cons_of_mem _ hy)
theorem min_pairs {a : Word} {r : List Word} (h2 : ∀ x ∈ a :: r, ∃ p q, x = [p, q]) (h : Hd) : gMinL [.lst ((a :: r).map wD)] h = .ok (wD (minW a r)) h := by
  have ok : minOk ((a :: r).map wD) := by
    refine ⟨noLA_iff.mpr fun x hx => ?_, ?_, fun x hx y hy => ?_, fun x hx => ?_⟩
    · obtain ⟨w, _, rfl⟩ := List.mem_map.mp hx
      simp only [D.noL]
      exact noL_strs w
    · have : ∀ l : List Word, D.depA (l.map wD) ≤ 1 := fun l => by
        induction l with
        | nil => simp [D.depA]
        | cons w l ih =>
          simp only [List.map_cons, D.depA, D.dep, dep_strs]
          omega
      have := this (a :: r)
      omega
    · rw [toPA_map] at hx hy
      simp only [List.map_map, List.mem_map] at hx hy
      obtain ⟨u, hu, rfl⟩ := hx
      obtain ⟨v, hv, rfl⟩ := hy
      obtain ⟨p, q, rfl⟩ := h2 u hu
      obtain ⟨p', q', rfl⟩ := h2 v hv
      simp [D.toP, D.toPA, PySem.W.alike, PySem.W.alikeAll]
    · rw [toPA_map] at hx
      simp only [List.map_map, List.mem_map] at hx
      obtain ⟨u, hu, rfl⟩ := hx
      simp [D.toP]
  unfold gMinL
  simp only [Ev.listOf, D.see, List.map_cons]
  rw [List.map_cons] at ok
  rw [if_pos ok, least_words]
end K04

namespace K04
open PySem L2 Ev
/-! ### shortest_walk -/
def wordD : Option Word → Ev.D
  | none => .non
  | some ns => wD ns
theorem lo_words (n : Nat) (x : Option Word) : (wordD x).lo n := by
  cases x with
  | none => exact lo_non n
  | some ns => exact (lo_tup n _).mpr (lo_strs n ns)
/-- the steps nearer -/
def near1 (g : Di) (z : Int) (w : Way) : Bool := decide ((g w.t).getD 1000000000 = z)
abbrev stK : MB := (tCmp (mOp (dEq false) (mMt kGet (mVar 3) (aCons (mOp dIx (mVar 9) (mC (.int 2))) (aCons (mC k_NEVER) aNil))) (mVar 6)))
abbrev stM : M := (mTup (aCons (mOp dIx (mVar 9) (mC (.int 0))) (aCons (mOp dIx (mVar 9) (mC (.int 2))) aNil)))
theorem st_comp {c : Calls} {t : Tau} {h : Hd} {K : Nat} {es : List (Ev.D × Ev.D)} {g : Di} {z : Int} (src : Src) (hs : src.ok h) (tl : t.length = 10) (t3 : t[3]? = some (some (.ref K))) (t6 : t[6]? = some (some (.int z))) (hK : h[K]? = some (.dict es)) (dg : Dis es g) :
    ∀ ws : List Way, compL src (stepC c (wipeT t [9]) (.nm 9) stK stM) (ws.map Way.D) h = .ok ((ws.filter (near1 g z)).map fun w => wD [w.n, w.t]) h
  | [] => by
    rw [List.map_nil]
    unfold compL
    rw [if_pos hs]
    rfl
  | w :: ws => by
    rw [List.map_cons]
    unfold compL
    have v9 : ((wipeT t [9]).set 9 (some w.D))[9]? = some (some w.D) := List.getElem?_set_self (by simp [wipeT, tl])
    have v3 : ((wipeT t [9]).set 9 (some w.D))[3]? = some (some (.ref K)) := by simp [wipeT, List.getElem?_set_ne, t3]
    have v6 : ((wipeT t [9]).set 9 (some w.D))[6]? = some (some (.int z)) := by simp [wipeT, List.getElem?_set_ne, t6]
    have est : stepC c (wipeT t [9]) (.nm 9) stK stM w.D h = .ok (if near1 g z w then some (wD [w.n, w.t]) else none) h := by
      unfold stepC asg
      obtain ⟨t', ht'⟩ : ∃ t' : Tau, t' = (wipeT t [9]).set 9 (some w.D) := ⟨_, rfl⟩
      rw [← ht'] at v9 v3 v6
      have eg2 := get2_dict (K := K) hK (cl := c) (t := t') (mo := mVar 3) (ma := mOp dIx (mVar 9) (mC (.int 2))) (mb := mC k_NEVER) (k := w.t) (z := .int 1000000000) (by simp only [mVar_ev, v3]) (by simp only [mOp_ev, mVar_ev, v9, bind_ok, mC_ev, w2]) rfl
      have gv : (getD es (.str w.t)).getD (.int 1000000000) = .int ((g w.t).getD 1000000000) := by
        rw [dg.at_]
        cases g w.t <;> rfl
      rw [gv] at eg2
      have ek : stK c t' h = .ok (near1 g z w) h := by
        unfold stK
        rw [tCmp_ev, mOp_ev, eg2, bind_ok]
        simp only [mVar_ev, v6, bind_ok, eq_i, dBl_ev]
        rfl
      have em : stM c t' h = .ok (wD [w.n, w.t]) h := by
        unfold stM
        simp only [mTup_ev, aCons_ev, mOp_ev, mVar_ev, v9, bind_ok, mC_ev, w0, w2, aNil_ev]
        exact freshT_ev _ (by simp)
      simp only
      rw [← ht', ek, bind_ok]
      cases near1 g z w
      · rfl
      · simp only [if_true]
        rw [em]
        rfl
    rw [if_pos hs, est, bind_ok, st_comp src hs tl t3 t6 hK dg ws, bind_ok]
    by_cases q : near1 g z w = true
    · simp [q, List.filter_cons]
    · simp [q, List.filter_cons]
theorem ne_i (a b : List Nat) (h : Hd) : dEq true (.str a) (.str b) h = .ok (.bl (decide (a ≠ b))) h := ne_w h
noncomputable abbrev swBody : MS := (sSeq (sSet 6 (mOp dSub (mOp dIx (mVar 3) (mVar 5)) (mC (.int 1))))
  (sSeq (sSet 7 (mComp false (iVal (mCall 3 (aCons (mVar 0) (aCons (mVar 5) aNil)))) (.nm 9) [9] stK stM))
  (sSeq (sAsg (.tp [8, 5]) (mB gMinL (aCons (mVar 7) aNil)))
  (sExpr (mMt kAppend (mVar 4) (aCons (mVar 8) aNil))))))
/-- one turn: the least step nearer is taken -/
theorem sw_turn {f : Flow} (o : f.ok) {c : Calls} (cw : ∀ (x : List Nat), x ∈ f.st → ∀ h, c 3 [f.D, .str x] h = .ok (.tup ((outs f x).map Way.D)) h) {v x : List Nat} {pre : Word} {b : Hd} {es : List (Ev.D × Ev.D)} {g : Di} (hg : ∀ y z, g y = some z ↔ ∃ k : Nat, z = k ∧ Dst f v y k) (dg : Dis es g) {k : Nat} (hd : Dst f v x (k + 1)) (hk : k ≤ 100) (hp : pre.length ≤ 1000) {x1 x2 x6 x7 x8 : Option Ev.D} :
    ∃ w ∈ f.ws, w.s = x ∧ Dst f v w.t k ∧ (∀ w' ∈ f.ws, w'.s = x → Dst f v w'.t k → ¬ w'.n < w.n) ∧
    ∃ y6 y7 y8, swBody c [some f.D, x1, x2, some (.ref b.length), some (.ref (b.length + 1)), some (.str x), x6, x7, x8, none] (b ++ [.dict es, .lst (pre.map D.str)]) = .nx [some f.D, x1, x2, some (.ref b.length), some (.ref (b.length + 1)), some (.str w.t), y6, y7, y8, none] (b ++ [.dict es, .lst ((pre ++ [w.n]).map D.str)]) := by
  obtain ⟨w1, hw1, e1, d1⟩ := hd.pred
  have hx : x ∈ f.st := e1 ▸ o.src w1 hw1
  have hK : (b ++ [O.dict es, .lst (pre.map D.str)])[b.length]? = some (.dict es) := by simp
  have gx : g x = some (((k + 1 : Nat) : Int)) := (hg _ _).mpr ⟨k + 1, rfl, hd⟩
  have gd := dg.at_ x
  rw [gx] at gd
  have ed := ix_dict hK (show getD es (.str x) = some (.int ((k + 1 : Nat) : Int)) from gd)
  obtain ⟨z, hz⟩ : ∃ z : Int, z = (k : Int) := ⟨_, rfl⟩
  have s6 : sSet 6 (mOp dSub (mOp dIx (mVar 3) (mVar 5)) (mC (.int 1))) c [some f.D, x1, x2, some (.ref b.length), some (.ref (b.length + 1)), some (.str x), x6, x7, x8, none] (b ++ [.dict es, .lst (pre.map D.str)]) = .nx [some f.D, x1, x2, some (.ref b.length), some (.ref (b.length + 1)), some (.str x), some (.int z), x7, x8, none] (b ++ [.dict es, .lst (pre.map D.str)]) := by
    have : mOp dSub (mOp dIx (mVar 3) (mVar 5)) (mC (.int 1)) c [some f.D, x1, x2, some (.ref b.length), some (.ref (b.length + 1)), some (.str x), x6, x7, x8, none] (b ++ [.dict es, .lst (pre.map D.str)]) = .ok (.int z) (b ++ [.dict es, .lst (pre.map D.str)]) := by
      simp only [mOp_ev, mVar_ev, List.getElem?_cons_succ, List.getElem?_cons_zero, bind_ok, ed, mC_ev]
      rw [show z = ((k + 1 : Nat) : Int) - 1 by omega]
      rfl
    rw [sSet_ev, this, toS_ok]
    rfl
  obtain ⟨S, hS⟩ : ∃ S, S = (outs f x).filter (near1 g z) := ⟨_, rfl⟩
  have mS : ∀ w, w ∈ S ↔ w ∈ f.ws ∧ w.s = x ∧ Dst f v w.t k := fun w => by
    rw [hS, List.mem_filter]
    unfold outs
    rw [List.mem_filter, decide_eq_true_iff, and_assoc]
    refine and_congr_right fun _ => and_congr_right fun _ => ?_
    unfold near1
    rw [decide_eq_true_iff]
    constructor
    · intro h
      cases q : g w.t with
      | none => rw [q] at h; simp at h; omega
      | some z' =>
        rw [q] at h
        obtain ⟨k', h1, h2⟩ := (hg _ _).mp q
        have : k' = k := by simp at h; omega
        exact this ▸ h2
    · intro h
      rw [(hg _ _).mpr ⟨k, rfl, h⟩, hz]
      rfl
  have ol := o.w16
  have Sl : S.length ≤ 16 := by
    rw [hS]
    refine Nat.le_trans (List.length_filter_le _ _) (Nat.le_trans (List.length_filter_le _ _) ol)
  have s7 : sSet 7 (mComp false (iVal (mCall 3 (aCons (mVar 0) (aCons (mVar 5) aNil)))) (.nm 9) [9] stK stM) c [some f.D, x1, x2, some (.ref b.length), some (.ref (b.length + 1)), some (.str x), some (.int z), x7, x8, none] (b ++ [.dict es, .lst (pre.map D.str)]) = .nx [some f.D, x1, x2, some (.ref b.length), some (.ref (b.length + 1)), some (.str x), some (.int z), some (.lst (S.map fun w => wD [w.n, w.t])), x8, none] (b ++ [.dict es, .lst (pre.map D.str)]) := by
    have ei : iVal (mCall 3 (aCons (mVar 0) (aCons (mVar 5) aNil))) c [some f.D, x1, x2, some (.ref b.length), some (.ref (b.length + 1)), some (.str x), some (.int z), x7, x8, none] (b ++ [.dict es, .lst (pre.map D.str)]) = .ok ⟨(outs f x).map Way.D, none⟩ (b ++ [.dict es, .lst (pre.map D.str)]) := by
      simp only [iVal_ev, mCall_ev, aCons_ev, mVar_ev, List.getElem?_cons_succ, List.getElem?_cons_zero, bind_ok, aNil_ev, cw x hx]
      simp [dIter]
    have ec := st_comp (c := c) (t := [some f.D, x1, x2, some (.ref b.length), some (.ref (b.length + 1)), some (.str x), some (.int z), x7, x8, none]) (z := z) ⟨(outs f x).map Way.D, none⟩ (h := b ++ [.dict es, .lst (pre.map D.str)]) trivial rfl rfl rfl hK dg (outs f x)
    rw [sSet_ev]
    unfold mComp
    rw [ei, bind_ok, ec, bind_ok, ← hS, freshF _ (by rw [List.length_map]; omega), toS_ok]
    rfl
  have ne : S ≠ [] := fun z => by
    have := (mS w1).mpr ⟨hw1, e1, d1⟩
    rw [z] at this
    cases this
  cases S with
  | nil => exact absurd rfl ne
  | cons a S =>
    have em := min_pairs (a := [a.n, a.t]) (r := S.map fun w => [w.n, w.t]) (fun y hy => by
      rcases List.mem_cons.mp hy with rfl | hy
      · exact ⟨_, _, rfl⟩
      · obtain ⟨w, _, rfl⟩ := List.mem_map.mp hy
        exact ⟨_, _, rfl⟩) (b ++ [.dict es, .lst (pre.map D.str)])
    obtain ⟨l1, l2⟩ := minW_least [a.n, a.t] (S.map fun w => [w.n, w.t])
    obtain ⟨w, hw, ew⟩ : ∃ w ∈ a :: S, minW [a.n, a.t] (S.map fun w => [w.n, w.t]) = [w.n, w.t] := by
      rcases List.mem_cons.mp l1 with h | h
      · exact ⟨a, List.mem_cons_self .., h⟩
      · obtain ⟨w, hw, e⟩ := List.mem_map.mp h
        exact ⟨w, List.mem_cons_of_mem _ hw, e.symm⟩
    rw [ew] at em l2
    obtain ⟨q1, q2, q3⟩ := (mS w).mp hw
    refine ⟨w, q1, q2, q3, fun w' hw' e' d' hlt => ?_, some (.int z), some (.lst ((a :: S).map fun w => wD [w.n, w.t])), some (.str w.n), ?_⟩
    · have m' : w' ∈ a :: S := (mS w').mpr ⟨hw', e', d'⟩
      refine l2 [w'.n, w'.t] ?_ (List.cons_lt_cons_iff.mpr (.inl hlt))
      have : [w'.n, w'.t] ∈ (a :: S).map fun w => [w.n, w.t] := List.mem_map.mpr ⟨w', m', rfl⟩
      exact this
    · have e3 : ((a :: S).map fun w => wD [w.n, w.t]) = ([a.n, a.t] :: S.map fun w => [w.n, w.t]).map wD := by simp
      have s5 : sAsg (.tp [8, 5]) (mB gMinL (aCons (mVar 7) aNil)) c [some f.D, x1, x2, some (.ref b.length), some (.ref (b.length + 1)), some (.str x), some (.int z), some (.lst ((a :: S).map fun w => wD [w.n, w.t])), x8, none] (b ++ [.dict es, .lst (pre.map D.str)]) = .nx [some f.D, x1, x2, some (.ref b.length), some (.ref (b.length + 1)), some (.str w.t), some (.int z), some (.lst ((a :: S).map fun w => wD [w.n, w.t])), some (.str w.n), none] (b ++ [.dict es, .lst (pre.map D.str)]) := by
        rw [e3]
        rw [sAsg_ev, mB_ev, aCons_ev]
        simp only [mVar_ev, List.getElem?_cons_succ, List.getElem?_cons_zero, bind_ok, aNil_ev, em, toS_ok]
        rfl
      have ap := append_at (c := c) (t := [some f.D, x1, x2, some (.ref b.length), some (.ref (b.length + 1)), some (.str w.t), some (.int z), some (.lst ((a :: S).map fun w => wD [w.n, w.t])), some (.str w.n), none]) (h := b ++ [.dict es, .lst (pre.map D.str)]) (i := 4) (L := b.length + 1) (m := mVar 8) (d := .str w.n) (xs := pre.map D.str) (ys := pre.map D.str) rfl (get2 b (.dict es) (.lst (pre.map D.str))) rfl (get2 b (.dict es) (.lst (pre.map D.str))) (by rw [List.length_map]; omega)
      rw [set2] at ap
      unfold swBody
      rw [sSeq_ev, s6, seq_nx, sSeq_ev, s7, seq_nx, sSeq_ev, s5, seq_nx, ap, List.map_append, List.map_singleton]
end K04

namespace K04
open PySem L2 Ev
def Uq (f : Flow) : Prop := ∀ w ∈ f.ws, ∀ w' ∈ f.ws, w.n = w'.n → w.s = w'.s → w = w'
theorem sw_loop {f : Flow} (o : f.ok) (uq : Uq f) {c : Calls} (cw : ∀ (x : List Nat), x ∈ f.st → ∀ h, c 3 [f.D, .str x] h = .ok (.tup ((outs f x).map Way.D)) h) {u v : List Nat} {b : Hd} {es : List (Ev.D × Ev.D)} {g : Di} (hv : v ∈ f.st) (hg : ∀ y z, g y = some z ↔ ∃ k : Nat, z = k ∧ Dst f v y k) (dg : Dis es g) {K : Nat} (hd : Dst f v u K) {x1 : Option Ev.D} :
    ∃ (ns : Word) (y6 y7 y8 : Option Ev.D), sWhile (tCmp (mOp (dEq true) (mVar 5) (mVar 2))) swBody c [some f.D, x1, some (.str v), some (.ref b.length), some (.ref (b.length + 1)), some (.str u), none, none, none, none] (b ++ [.dict es, .lst []]) = .nx [some f.D, x1, some (.str v), some (.ref b.length), some (.ref (b.length + 1)), some (.str v), y6, y7, y8, none] (b ++ [.dict es, .lst (ns.map D.str)]) ∧ Best f v u ns := by
  have few := hd.few o hv
  have s8 := o.s8
  refine sWhile_gen (I := fun n t h' => ∃ (pre : Word) (x : List Nat) (k : Nat) (x6 x7 x8 : Option Ev.D), n = k ∧ t = [some f.D, x1, some (.str v), some (.ref b.length), some (.ref (b.length + 1)), some (.str x), x6, x7, x8, none] ∧ h' = b ++ [.dict es, .lst (pre.map D.str)] ∧ Dst f v x k ∧ pre.length + k ≤ 8 ∧ ∀ ns, Best f v x ns → Best f v u (pre ++ ns))
    (O := fun y => ∃ (ns : Word) (y6 y7 y8 : Option Ev.D), y = .nx [some f.D, x1, some (.str v), some (.ref b.length), some (.ref (b.length + 1)), some (.str v), y6, y7, y8, none] (b ++ [.dict es, .lst (ns.map D.str)]) ∧ Best f v u ns) ?_ K (by omega) ⟨[], u, K, none, none, none, rfl, rfl, rfl, hd, by simp; omega, fun ns h => h⟩
  rintro n t h' ⟨pre, x, k, x6, x7, x8, rfl, rfl, rfl, d, hl, hb⟩
  have tt : tCmp (mOp (dEq true) (mVar 5) (mVar 2)) c [some f.D, x1, some (.str v), some (.ref b.length), some (.ref (b.length + 1)), some (.str x), x6, x7, x8, none] (b ++ [.dict es, .lst (pre.map D.str)]) = .ok (decide (x ≠ v)) (b ++ [.dict es, .lst (pre.map D.str)]) := by
    simp only [tCmp_ev, mOp_ev, mVar_ev, List.getElem?_cons_succ, List.getElem?_cons_zero, bind_ok, ne_w, dBl_ev]
  rw [tt]
  cases n with
  | zero =>
    have := d.zero
    subst this
    refine .inl ⟨by simp, pre, x6, x7, x8, rfl, ?_⟩
    have := hb [] ⟨.nil, fun ms hm => ⟨by simp, fun hh hlt => by simp at hh; subst hh; exact List.lt_irrefl _ hlt⟩⟩
    rw [List.append_nil] at this
    exact this
  | succ k =>
    have hxv : x ≠ v := by
      rintro rfl
      have := d.uniq (Dst.self f x)
      omega
    refine .inr ⟨by rw [decide_eq_true hxv], ?_⟩
    obtain ⟨w, hw, e, dt, hlow, y6, y7, y8, et⟩ := sw_turn (c := c) (b := b) (pre := pre) (x1 := x1) (x2 := some (.str v)) (x6 := x6) (x7 := x7) (x8 := x8) o cw hg dg d (by omega) (by omega)
    rw [et]
    refine .nx ⟨k, by omega, pre ++ [w.n], w.t, k, y6, y7, y8, rfl, rfl, rfl, dt, by simp; omega, fun ns hn => ?_⟩
    subst e
    have := hb _ (Best.cons uq hw d dt hlow hn)
    rw [List.append_assoc]
    exact this
theorem c_short {n : Nat} (hn : 3 ≤ n) {f : Flow} (o : f.ok) (uq : Uq f) {u v : List Nat} (hu : u ∈ f.st) (hv : v ∈ f.st) (h : Hd) :
    ∃ r : Option Word, callN T n 10 [f.D, .str u, .str v] h = .ok (wordD r) h ∧ ((r = none ∧ ∀ ns, ¬ Wd f v u ns) ∨ ∃ ns, r = some ns ∧ Best f v u ns) := by
  obtain ⟨m, rfl⟩ := lvl hn
  rw [call_at (F := ⟨3, 10, b_shortest_walk⟩) rfl]
  have e1 := c_require (n := m + 2) (by omega) f hu h
  have e2 := c_require (n := m + 2) (by omega) f hv h
  obtain ⟨es, e8, dg⟩ := c_dist (n := m + 2) (by omega) o v h
  have cw := fun (x : List Nat) (hx : x ∈ f.st) (h : Hd) => c_ways (n := m + 2) (by omega) o hx h
  have hg := fun y z => dsN_all o hv (c := f.st.length - 1) (by omega) y z
  generalize callN T (m + 2) = c at e1 e2 e8 cw
  generalize dsN f v (f.st.length - 1) = g at dg hg
  have ea : ([f.D, .str u, .str v].map some ++ List.replicate (10 - 3) (none : Option Ev.D)) = [some f.D, some (.str u), some (.str v), none, none, none, none, none, none, none] := rfl
  rw [runFn_at (np := 3) (nn := 10) rfl ea]
  have hb : b_shortest_walk = sSeq (sExpr (mCall 2 (aCons (mVar 0) (aCons (mVar 1) aNil)))) (sSeq (sExpr (mCall 2 (aCons (mVar 0) (aCons (mVar 2) aNil)))) (sSeq (sSet 3 (mCall 8 (aCons (mVar 0) (aCons (mVar 2) aNil)))) (sSeq (sIf (tCmp (mOp (dIn true) (mVar 1) (mVar 3))) (sRet (mC .non)) sNil) (sSeq (sSet 4 (mLst true aNil)) (sSeq (sSet 5 (mVar 1)) (sSeq (sWhile (tCmp (mOp (dEq true) (mVar 5) (mVar 2))) swBody) (sRet (mB gTuple (aCons (mVar 4) aNil))))))))) := rfl
  have s0 : sExpr (mCall 2 (aCons (mVar 0) (aCons (mVar 1) aNil))) c [some f.D, some (.str u), some (.str v), none, none, none, none, none, none, none] h = .nx [some f.D, some (.str u), some (.str v), none, none, none, none, none, none, none] h := by simp [e1]
  have s1 : sExpr (mCall 2 (aCons (mVar 0) (aCons (mVar 2) aNil))) c [some f.D, some (.str u), some (.str v), none, none, none, none, none, none, none] h = .nx [some f.D, some (.str u), some (.str v), none, none, none, none, none, none, none] h := by simp [e2]
  have s3 : sSet 3 (mCall 8 (aCons (mVar 0) (aCons (mVar 2) aNil))) c [some f.D, some (.str u), some (.str v), none, none, none, none, none, none, none] h = .nx [some f.D, some (.str u), some (.str v), some (.ref h.length), none, none, none, none, none, none] (h ++ [.dict es]) := by simp [e8]
  have i1 := in_dict (n := true) (x := u) (get_last h (.dict es))
  have tt : tCmp (mOp (dIn true) (mVar 1) (mVar 3)) c [some f.D, some (.str u), some (.str v), some (.ref h.length), none, none, none, none, none, none] (h ++ [.dict es]) = .ok (true != (g u).isSome) (h ++ [.dict es]) := by
    simp only [tCmp_ev, mOp_ev, mVar_ev, List.getElem?_cons_succ, List.getElem?_cons_zero, bind_ok, i1, dBl_ev, dg.at_, Option.isSome_map]
  rw [hb, sSeq_ev, s0, seq_nx, sSeq_ev, s1, seq_nx, sSeq_ev, s3, seq_nx, sSeq_ev, sIf_ev, tt, toS_ok]
  cases q : g u with
  | none =>
    refine ⟨none, ?_, .inl ⟨rfl, fun ns hns => ?_⟩⟩
    · rw [Option.isSome_none, if_pos (show (true != false) = true from rfl)]
      simp only [sRet_ev, mC_ev, toS_ok, seq_rt, fin_rt]
      exact fin1_app (lo_non _)
    · obtain ⟨k, _, d⟩ := Dst.ex _ _ (Nat.le_refl _) hns
      rw [(hg u k).mpr ⟨k, rfl, d⟩] at q
      cases q
  | some z =>
    obtain ⟨K, _, d⟩ := (hg u z).mp q
    obtain ⟨ns, y6, y7, y8, e, best⟩ := sw_loop (c := c) (b := h) (es := es) (x1 := some (.str u)) o uq cw hv hg dg d
    refine ⟨some ns, ?_, .inr ⟨ns, rfl, best⟩⟩
    rw [Option.isSome_some, if_neg (by decide), sNil_ev, seq_nx]
    have s4 : sSet 4 (mLst true aNil) c [some f.D, some (.str u), some (.str v), some (.ref h.length), none, none, none, none, none, none] (h ++ [.dict es]) = .nx [some f.D, some (.str u), some (.str v), some (.ref h.length), some (.ref (h.length + 1)), none, none, none, none, none] (h ++ [.dict es, .lst []]) := by simp
    have s5 : sSet 5 (mVar 1) c [some f.D, some (.str u), some (.str v), some (.ref h.length), some (.ref (h.length + 1)), none, none, none, none, none] (h ++ [.dict es, .lst []]) = .nx [some f.D, some (.str u), some (.str v), some (.ref h.length), some (.ref (h.length + 1)), some (.str u), none, none, none, none] (h ++ [.dict es, .lst []]) := rfl
    rw [sSeq_ev, s4, seq_nx, sSeq_ev, s5, seq_nx, sSeq_ev, e, seq_nx]
    have gt : gTuple [.ref (h.length + 1)] (h ++ [.dict es, .lst (ns.map D.str)]) = .ok (wD ns) (h ++ [.dict es, .lst (ns.map D.str)]) := by simp [gTuple, seqOf, D.see]
    simp only [sRet_ev, mB_ev, aCons_ev, mVar_ev, List.getElem?_cons_succ, List.getElem?_cons_zero, bind_ok, aNil_ev, gt, toS_ok, fin_rt]
    exact fin1_app (lo_words _ (some ns))
end K04

namespace K04
open PySem L2 Ev
/-! ### the law's shortest walk: the plain part -/
abbrev Wo := List Nat → Option Word
def better (a : Wo) (x : List Nat) (ns : Word) : Bool := match a x with
  | none => true
  | some m => decide (ns < m)
def lsx (g a : Wo) (w : Way) : Wo := match g w.s with
  | none => a
  | some ns => if better a w.t (ns ++ [w.n]) = true then fun x => if w.t = x then some (ns ++ [w.n]) else a x else a
/-- the least words of k ways from u -/
structure Lay (f : Flow) (u : List Nat) (k : Nat) (g : Wo) : Prop where
  yes : ∀ x ns, g x = some ns → Wd f x u ns ∧ ns.length = k ∧ ∀ ms, Wd f x u ms → ms.length = k → ¬ ms < ns
  no : ∀ x, g x = none → ∀ ms, Wd f x u ms → ms.length ≠ k
structure Rw (g a : Wo) (done : List Way) : Prop where
  yes : ∀ x ns, a x = some ns → (∃ w ∈ done, ∃ m, g w.s = some m ∧ w.t = x ∧ ns = m ++ [w.n]) ∧ ∀ w ∈ done, w.t = x → ∀ m, g w.s = some m → ¬ m ++ [w.n] < ns
  no : ∀ x, a x = none → ∀ w ∈ done, w.t = x → g w.s = none
theorem Rw.step {g a : Wo} {done : List Way} (r : Rw g a done) (w : Way) : Rw g (lsx g a w) (done ++ [w]) := by
  cases q : g w.s with
  | none =>
    have e : lsx g a w = a := by unfold lsx; rw [q]
    rw [e]
    refine ⟨fun x ns h => ?_, fun x h v hv hx => ?_⟩
    · obtain ⟨⟨w', hw', hh⟩, h2⟩ := r.yes x ns h
      refine ⟨⟨w', List.mem_append_left _ hw', hh⟩, fun v hv hx m hm => ?_⟩
      rcases List.mem_append.mp hv with hv | hv
      · exact h2 v hv hx m hm
      · rw [List.mem_singleton.mp hv, q] at hm; cases hm
    · rcases List.mem_append.mp hv with hv | hv
      · exact r.no x h v hv hx
      · rw [List.mem_singleton.mp hv]; exact q
  | some ns =>
    by_cases p : better a w.t (ns ++ [w.n]) = true
    · have e : lsx g a w = fun x => if w.t = x then some (ns ++ [w.n]) else a x := by unfold lsx; simp only [q]; rw [if_pos p]
      rw [e]
      refine ⟨fun x ms h => ?_, fun x h v hv hx => ?_⟩
      · have h : (if w.t = x then some (ns ++ [w.n]) else a x) = some ms := h
        by_cases y : w.t = x
        · rw [if_pos y] at h
          injection h with h
          subst h
          refine ⟨⟨w, by simp, ns, q, y, rfl⟩, fun v hv hx m hm => ?_⟩
          rcases List.mem_append.mp hv with hv | hv
          · unfold better at p
            cases z : a w.t with
            | none => rw [r.no w.t z v hv (hx.trans y.symm)] at hm; cases hm
            | some m0 =>
              rw [z] at p
              have p : ns ++ [w.n] < m0 := of_decide_eq_true p
              have h3 := (r.yes w.t m0 z).2 v hv (hx.trans y.symm) m hm
              exact fun hlt => h3 (List.lt_trans hlt p)
          · rw [List.mem_singleton.mp hv] at hm ⊢
            rw [q] at hm
            injection hm with hm
            subst hm
            exact List.lt_irrefl _
        · rw [if_neg y] at h
          obtain ⟨⟨w', hw', hh⟩, h2⟩ := r.yes x ms h
          refine ⟨⟨w', List.mem_append_left _ hw', hh⟩, fun v hv hx m hm => ?_⟩
          rcases List.mem_append.mp hv with hv | hv
          · exact h2 v hv hx m hm
          · rw [List.mem_singleton.mp hv] at hx; exact absurd hx y
      · have h : (if w.t = x then some (ns ++ [w.n]) else a x) = none := h
        by_cases y : w.t = x
        · rw [if_pos y] at h; cases h
        · rw [if_neg y] at h
          rcases List.mem_append.mp hv with hv | hv
          · exact r.no x h v hv hx
          · rw [List.mem_singleton.mp hv] at hx; exact absurd hx y
    · have e : lsx g a w = a := by unfold lsx; simp only [q]; rw [if_neg p]
      rw [e]
      unfold better at p
      cases z : a w.t with
      | none => rw [z] at p; exact absurd rfl p
      | some m0 =>
        rw [z] at p
        have p : ¬ ns ++ [w.n] < m0 := fun h => p (decide_eq_true h)
        refine ⟨fun x ms h => ?_, fun x h v hv hx => ?_⟩
        · obtain ⟨⟨w', hw', hh⟩, h2⟩ := r.yes x ms h
          refine ⟨⟨w', List.mem_append_left _ hw', hh⟩, fun v hv hx m hm => ?_⟩
          rcases List.mem_append.mp hv with hv | hv
          · exact h2 v hv hx m hm
          · rw [List.mem_singleton.mp hv] at hm hx ⊢
            rw [q] at hm
            injection hm with hm
            subst hm
            rw [← hx, z] at h
            injection h with h
            subst h
            exact p
        · rcases List.mem_append.mp hv with hv | hv
          · exact r.no x h v hv hx
          · rw [List.mem_singleton.mp hv] at hx
            rw [← hx, z] at h
            cases h
theorem Rw.fold {g : Wo} : ∀ (ws : List Way) (a : Wo) (done : List Way), Rw g a done → Rw g (ws.foldl (lsx g) a) (done ++ ws)
  | [], a, done, r => by rw [List.append_nil]; exact r
  | w :: ws, a, done, r => by
    have := Rw.fold ws _ _ (r.step w)
    rw [List.append_assoc] at this
    exact this
theorem lt_app (a : List Nat) : ∀ (m n : Word), m.length = n.length → m ++ [a] < n ++ [a] → m < n
  | [], [], _, h => absurd h (List.lt_irrefl _)
  | [], _ :: _, e, _ => by simp at e
  | _ :: _, [], e, _ => by simp at e
  | x :: m, y :: n, e, h => by
    rw [List.cons_append, List.cons_append] at h
    rcases List.cons_lt_cons_iff.mp h with q | ⟨q, q2⟩
    · exact List.cons_lt_cons_iff.mpr (.inl q)
    · exact List.cons_lt_cons_iff.mpr (.inr ⟨q, lt_app a m n (by simpa using e) q2⟩)
theorem Lay.zero (f : Flow) (u : List Nat) : Lay f u 0 (fun x => if u = x then some [] else none) := by
  refine ⟨fun x ns h => ?_, fun x h ms hm hl => ?_⟩
  · by_cases q : u = x
    · rw [if_pos q] at h
      injection h with h
      subst h q
      exact ⟨.nil, rfl, fun ms _ hl hlt => by
        have : ms = [] := List.eq_nil_of_length_eq_zero hl
        subst this
        exact List.lt_irrefl _ hlt⟩
    · rw [if_neg q] at h; cases h
  · have : ms = [] := List.eq_nil_of_length_eq_zero hl
    subst this
    rw [if_pos hm.inv0] at h
    cases h
theorem Lay.next {f : Flow} {u : List Nat} {k : Nat} {g : Wo} (l : Lay f u k g) : Lay f u (k + 1) (f.ws.foldl (lsx g) fun _ => none) := by
  have r : Rw g (f.ws.foldl (lsx g) fun _ => none) f.ws := by
    have := Rw.fold (g := g) f.ws (fun _ => none) [] ⟨fun x ns h => (nomatch h), fun x h w hw => absurd hw (by simp)⟩
    exact this
  generalize f.ws.foldl (lsx g) (fun _ => none) = a at r
  refine ⟨fun x ns h => ?_, fun x h ms hm hl => ?_⟩
  · obtain ⟨⟨w, hw, m, hg, ht, rfl⟩, h2⟩ := r.yes x ns h
    obtain ⟨y1, y2, y3⟩ := l.yes _ _ hg
    refine ⟨ht ▸ y1.snoc hw rfl, by rw [List.length_append, y2]; rfl, fun ms hm hl hlt => ?_⟩
    rcases List.eq_nil_or_concat ms with rfl | ⟨ms', n, rfl⟩
    · simp at hl
    · rw [List.concat_eq_append] at *
      obtain ⟨w', hw', e1, e2, h'⟩ := Wd.last ms' n hm
      rw [List.length_append] at hl
      have hl' : ms'.length = k := by simpa using hl
      cases q : g w'.s with
      | none => exact l.no _ q ms' h' hl'
      | some m' =>
        obtain ⟨z1, z2, z3⟩ := l.yes _ _ q
        have h3 := h2 w' hw' e1 m' q
        have h4 : ¬ ms' ++ [n] < m' ++ [n] := fun hh => z3 ms' h' hl' (lt_app n _ _ (by omega) hh)
        subst e2
        exact h3 (List.lt_of_le_of_lt (List.not_lt.mp h4) hlt)
  · rcases List.eq_nil_or_concat ms with rfl | ⟨ms', n, rfl⟩
    · simp at hl
    · rw [List.concat_eq_append] at *
      obtain ⟨w', hw', e1, e2, h'⟩ := Wd.last ms' n hm
      rw [List.length_append] at hl
      exact l.no _ (r.no x h w' hw' e1) ms' h' (by simpa using hl)
end K04

namespace K04
open PySem L2 Ev
/-! ### the law's shortest walk: the walk -/
structure DisW (es : List (Ev.D × Ev.D)) (g : Wo) : Prop where
  at_ : ∀ x, getD es (.str x) = (g x).map wD
theorem lt_wD (a b : Word) (h : Hd) : dLtT (wD a) (wD b) h = .ok (.bl (decide (a < b))) h := by
  have dp : (D.tup (a.map D.str)).dep ≤ 500 := by simp only [D.dep, dep_strs]; omega
  unfold dLtT
  simp only
  rw [if_pos (by simp [plain_strs, cmpb_strs, near, dp]), lt_strs]
noncomputable abbrev lsPut : MS := (sIf (tOr (tCmp (mOp (dIn true) (mOp dIx (mVar 6) (mC (.int 2))) (mVar 5))) (tCmp (mOp dLtT (mVar 7) (mOp dIx (mVar 5) (mOp dIx (mVar 6) (mC (.int 2)))))))
  (sPut (mVar 5) (mOp dIx (mVar 6) (mC (.int 2))) (mVar 7))
  sNil)
noncomputable abbrev lsIn : MS := (sIf (tCmp (mOp (dIn false) (mOp dIx (mVar 6) (mC (.int 1))) (mVar 3)))
  (sSeq (sSet 7 (mOp (dAdd false) (mOp dIx (mVar 3) (mOp dIx (mVar 6) (mC (.int 1)))) (mTup (aCons (mOp dIx (mVar 6) (mC (.int 0))) aNil))))
  lsPut)
  sNil)
theorem ls_put {c : Calls} {t : Tau} {h : Hd} {q : Nat} {es' : List (Ev.D × Ev.D)} {a : Wo} {w : Way} {ns : Word} (t5 : t[5]? = some (some (.ref q))) (t6 : t[6]? = some (some w.D)) (t7 : t[7]? = some (some (wD ns))) (hq : h[q]? = some (.dict es')) (da : DisW es' a) (hz : es'.length ≤ 1000) :
    ∃ es2, lsPut c t h = .nx t (h.set q (.dict es2)) ∧ DisW es2 (if better a w.t ns = true then fun x => if w.t = x then some ns else a x else a) ∧ es2.length ≤ es'.length + 1 := by
  have i1 := in_dict (n := true) (x := w.t) hq
  have e1 : tCmp (mOp (dIn true) (mOp dIx (mVar 6) (mC (.int 2))) (mVar 5)) c t h = .ok (true != (a w.t).isSome) h := by
    simp only [tCmp_ev, mOp_ev, mVar_ev, t6, t5, bind_ok, mC_ev, w2, i1, dBl_ev, da.at_, Option.isSome_map]
  have e2 : tOr (tCmp (mOp (dIn true) (mOp dIx (mVar 6) (mC (.int 2))) (mVar 5))) (tCmp (mOp dLtT (mVar 7) (mOp dIx (mVar 5) (mOp dIx (mVar 6) (mC (.int 2)))))) c t h = .ok (better a w.t ns) h := by
    rw [tOr_ev, e1, bind_ok]
    unfold better
    cases q1 : a w.t with
    | none => rw [if_pos (show (true != (none : Option Word).isSome) = true from rfl)]
    | some m =>
      have gd := da.at_ w.t
      rw [q1] at gd
      have ed := ix_dict hq (show getD es' (.str w.t) = some (wD m) from gd)
      rw [if_neg (show ¬ (true != (some m).isSome) = true by simp)]
      simp only [tCmp_ev, mOp_ev, mVar_ev, t5, t6, t7, bind_ok, mC_ev, w2, ed, lt_wD, dBl_ev]
  have pt := put_at (c := c) (t := t) (h := h) (i := 5) (K := q) (mk := mOp dIx (mVar 6) (mC (.int 2))) (mv := mVar 7) (k := w.t) (v := wD ns) t5 hq (by simp only [mOp_ev, mVar_ev, t6, bind_ok, mC_ev, w2]) (by simp only [mVar_ev, t7]) (by omega)
  unfold lsPut
  rw [sIf_ev, e2, toS_ok]
  cases q2 : better a w.t ns with
  | false => exact ⟨es', by rw [set_self hq]; rfl, by simpa using da, by omega⟩
  | true =>
    refine ⟨_, pt, ⟨fun x => ?_⟩, putD_len es' (.str w.t) (wD ns)⟩
    rw [getD_putS]
    show _ = (if w.t = x then some ns else a x).map wD
    by_cases r : w.t = x
    · rw [if_pos r, if_pos r]; rfl
    · rw [if_neg r, if_neg r]; exact da.at_ x
theorem ls_in {c : Calls} {t : Tau} {h : Hd} {p q : Nat} {es es' : List (Ev.D × Ev.D)} {g a : Wo} {w : Way} (tl : t.length = 8) (t3 : t[3]? = some (some (.ref p))) (t5 : t[5]? = some (some (.ref q))) (t6 : t[6]? = some (some w.D)) (hp : h[p]? = some (.dict es)) (hq : h[q]? = some (.dict es')) (dg : DisW es g) (da : DisW es' a) (hz : es'.length ≤ 1000) (hw : ∀ x ns, g x = some ns → ns.length ≤ 1000) :
    ∃ t' es2, lsIn c t h = .nx t' (h.set q (.dict es2)) ∧ Off [7] t t' ∧ DisW es2 (lsx g a w) ∧ es2.length ≤ es'.length + 1 := by
  have i1 := in_dict (n := false) (x := w.s) hp
  have e1 : tCmp (mOp (dIn false) (mOp dIx (mVar 6) (mC (.int 1))) (mVar 3)) c t h = .ok (g w.s).isSome h := by
    simp only [tCmp_ev, mOp_ev, mVar_ev, t6, t3, bind_ok, mC_ev, w1, i1, Bool.false_bne, dBl_ev, dg.at_, Option.isSome_map]
  unfold lsIn
  rw [sIf_ev, e1, toS_ok]
  cases q1 : g w.s with
  | none =>
    refine ⟨t, es', by rw [set_self hq]; rfl, Off.refl _ _, ?_, by omega⟩
    unfold lsx
    rw [q1]
    exact da
  | some ns =>
    rw [Option.isSome_some, if_pos rfl]
    have gd := dg.at_ w.s
    rw [q1] at gd
    have ed := ix_dict hp (show getD es (.str w.s) = some (wD ns) from gd)
    have hl := hw _ _ q1
    have ev : mOp (dAdd false) (mOp dIx (mVar 3) (mOp dIx (mVar 6) (mC (.int 1)))) (mTup (aCons (mOp dIx (mVar 6) (mC (.int 0))) aNil)) c t h = .ok (wD (ns ++ [w.n])) h := by
      simp only [mOp_ev, mVar_ev, t6, t3, bind_ok, mC_ev, w1, w0, ed, mTup_ev, aCons_ev, aNil_ev]
      rw [freshT_ev _ (by simp), bind_ok]
      have : dAdd false (wD ns) (.tup [.str w.n]) h = freshT (ns.map D.str ++ [.str w.n]) h := rfl
      rw [this, freshT_ev _ (by simp; omega)]
      simp
    have s7 : sSet 7 (mOp (dAdd false) (mOp dIx (mVar 3) (mOp dIx (mVar 6) (mC (.int 1)))) (mTup (aCons (mOp dIx (mVar 6) (mC (.int 0))) aNil))) c t h = .nx (t.set 7 (some (wD (ns ++ [w.n])))) h := by
      rw [sSet_ev, ev, toS_ok]
    have of : Off [7] t (t.set 7 (some (wD (ns ++ [w.n])))) := (Off.refl _ _).set (by simp)
    obtain ⟨es2, e, d2, l2⟩ := ls_put (c := c) (t := t.set 7 (some (wD (ns ++ [w.n])))) (w := w) (ns := ns ++ [w.n]) (by rw [of.same 5 (by decide)]; exact t5) (by rw [of.same 6 (by decide)]; exact t6) (List.getElem?_set_self (by rw [tl]; decide)) hq da hz
    refine ⟨_, es2, ?_, of, ?_, l2⟩
    · rw [sSeq_ev, s7, seq_nx, e]
    · unfold lsx
      simp only [q1]
      exact d2
theorem ls_for {f : Flow} (o : f.ok) {c : Calls} {t : Tau} {h1 : Hd} {p : Nat} {es : List (Ev.D × Ev.D)} {g : Wo} (tl : t.length = 8) (t0 : t[0]? = some (some f.D)) (t3 : t[3]? = some (some (.ref p))) (t5 : t[5]? = some (some (.ref h1.length))) (hp : h1[p]? = some (.dict es)) (dg : DisW es g) (hw : ∀ x ns, g x = some ns → ns.length ≤ 1000) :
    ∃ t' es2, sFor (iVal (mOp dIx (mVar 0) (mC (.int 2)))) (.nm 6) lsIn c t (h1 ++ [.dict []]) = .nx t' (h1 ++ [.dict es2]) ∧ Off [6, 7] t t' ∧ DisW es2 (f.ws.foldl (lsx g) fun _ => none) := by
  have hpl := (List.getElem?_eq_some_iff.mp hp).1
  have ei : iVal (mOp dIx (mVar 0) (mC (.int 2))) c t (h1 ++ [.dict []]) = .ok ⟨f.ws.map Way.D, none⟩ (h1 ++ [.dict []]) := by
    simp only [iVal_ev, mOp_ev, mVar_ev, t0, bind_ok, mC_ev, f2]
    simp [dIter]
  have ol := o.w16
  refine sFor_gen (b := lsIn) (g := .nm 6) (I := fun ds t' h' => ∃ (todo : List Way) (es' : List (Ev.D × Ev.D)) (a : Wo), ds = todo.map Way.D ∧ Off [6, 7] t t' ∧ h' = h1 ++ [.dict es'] ∧ DisW es' a ∧ todo.foldl (lsx g) a = f.ws.foldl (lsx g) (fun _ => none) ∧ es'.length + todo.length ≤ 100)
    (O := fun z => ∃ t' es2, z = .nx t' (h1 ++ [.dict es2]) ∧ Off [6, 7] t t' ∧ DisW es2 (f.ws.foldl (lsx g) fun _ => none)) ei ?_ ?_ ?_
  · rintro d ds t' h' ⟨todo, es', a, hd, of, rfl, na, ef, hz'⟩
    cases todo with
    | nil => simp at hd
    | cons w todo =>
      rw [List.map_cons] at hd
      obtain ⟨rfl, rfl⟩ := List.cons.inj hd
      rw [List.length_cons] at hz'
      have of' : Off [6, 7] t (t'.set 6 (some w.D)) := of.set (by simp)
      have t6' : (t'.set 6 (some w.D))[6]? = some (some w.D) := List.getElem?_set_self (by rw [of.len, tl]; decide)
      have t3' : (t'.set 6 (some w.D))[3]? = some (some (.ref p)) := by rw [of'.same 3 (by decide)]; exact t3
      have t5' : (t'.set 6 (some w.D))[5]? = some (some (.ref h1.length)) := by rw [of'.same 5 (by decide)]; exact t5
      have hp' : (h1 ++ [O.dict es'])[p]? = some (.dict es) := by rw [List.getElem?_append_left hpl]; exact hp
      obtain ⟨t2, es2, e, of2, n2, l2⟩ := ls_in (c := c) (w := w) (by rw [of'.len]; exact tl) t3' t5' t6' hp' (get_last h1 (.dict es')) dg na (by omega) hw
      refine ⟨trivial, t'.set 6 (some w.D), rfl, ?_⟩
      rw [e, set_last]
      exact .nx ⟨todo, es2, _, rfl, of'.trans of2 (fun j hj => by simp at hj; simp [hj]), rfl, n2, by rw [← ef]; rfl, by omega⟩
  · rintro t' h' ⟨todo, es', a, hd, of, rfl, na, ef, hz'⟩
    cases todo with
    | cons w todo => simp at hd
    | nil =>
      have ef : a = f.ws.foldl (lsx g) fun _ => none := ef
      exact ⟨trivial, t', es', rfl, of, ef ▸ na⟩
  · exact ⟨f.ws, [], fun _ => none, rfl, Off.refl _ _, rfl, ⟨fun x => rfl⟩, rfl, by simp; omega⟩
noncomputable abbrev lsBody : MS := (sSeq (sIf (tCmp (mOp (dIn false) (mVar 2) (mVar 3))) (sRet (mOp dIx (mVar 3) (mVar 2))) sNil) (sSeq (sSet 5 mDict0) (sSeq (sFor (iVal (mOp dIx (mVar 0) (mC (.int 2)))) (.nm 6) lsIn) (sSet 3 (mVar 5)))))
theorem c_lshort {n : Nat} (hn : 1 ≤ n) {f : Flow} (o : f.ok) {u v : List Nat} (hv : v ∈ f.st) (h : Hd) :
    ∃ r : Option Word, callN T n 21 [f.D, .str u, .str v] h = .ok (wordD r) h ∧ ((r = none ∧ ∀ ns, ¬ Wd f v u ns) ∨ ∃ ns, r = some ns ∧ Best f v u ns) := by
  obtain ⟨m, rfl⟩ := lvl hn
  rw [call_at (F := ⟨3, 8, b__law_shortest⟩) rfl]
  generalize callN T m = c
  have ea : ([f.D, .str u, .str v].map some ++ List.replicate (8 - 3) (none : Option Ev.D)) = [some f.D, some (.str u), some (.str v), none, none, none, none, none] := rfl
  rw [runFn_at (np := 3) (nn := 8) rfl ea]
  have hb : b__law_shortest = sSeq (sSet 3 (mDict1 (mVar 1) (mTup aNil))) (sSeq (sFor (iRng1 (mC (.int 8))) (.nm 4) lsBody) (sRet (mC .non))) := rfl
  have s1 : sSet 3 (mDict1 (mVar 1) (mTup aNil)) c [some f.D, some (.str u), some (.str v), none, none, none, none, none] h = .nx [some f.D, some (.str u), some (.str v), some (.ref h.length), none, none, none, none] (h ++ [.dict [(.str u, wD [])]]) := by
    simp [dOne, keyOk, freshT_ev]
  have ei : iRng1 (mC (.int 8)) c [some f.D, some (.str u), some (.str v), some (.ref h.length), none, none, none, none] (h ++ [.dict [(.str u, wD [])]]) = .ok ⟨rngD 0 8, none⟩ (h ++ [.dict [(.str u, wD [])]]) := by
    rw [iRng1_ev, mC_ev, bind_ok, dRng1_ok _ (by omega) (by omega)]
    rfl
  have d0 : DisW [(.str u, wD [])] (fun x => if u = x then some [] else none) := ⟨fun x => by
    unfold getD
    rw [List.find?_cons]
    simp only [eqv_str]
    by_cases q : u = x
    · subst q; simp
    · have : (u == x) = false := by simpa using q
      simp [this, q]⟩
  have key := sFor_gen (b := lsBody) (g := .nm 4) (I := fun ds t' h' => ∃ (s m p : Nat) (l : Hd) (es : List (Ev.D × Ev.D)) (g : Wo) (x4 x5 x6 x7 : Option Ev.D), ds = (List.range' s m).map (fun (k : Nat) => D.int (k : Int)) ∧ s + m = 8 ∧ t' = [some f.D, some (.str u), some (.str v), some (.ref p), x4, x5, x6, x7] ∧ h' = h ++ l ∧ (h ++ l)[p]? = some (.dict es) ∧ DisW es g ∧ Lay f u s g ∧ ∀ ns, Wd f v u ns → s ≤ ns.length)
    (O := fun z => (∃ l ns, z = .rt (wD ns) (h ++ l) ∧ Best f v u ns) ∨ (∃ t' l, z = .nx t' (h ++ l) ∧ ∀ ns, Wd f v u ns → 8 ≤ ns.length)) ei
    (by
      rintro d ds t' h' ⟨s, m, p, l, es, g, x4, x5, x6, x7, hd, hsm, rfl, rfl, hp, dg, lay, far⟩
      cases m with
      | zero => simp at hd
      | succ m =>
        rw [List.range'_succ, List.map_cons] at hd
        obtain ⟨rfl, rfl⟩ := List.cons.inj hd
        refine ⟨trivial, [some f.D, some (.str u), some (.str v), some (.ref p), some (.int (s : Int)), x5, x6, x7], rfl, ?_⟩
        have i1 := in_dict (n := false) (x := v) hp
        have e1 : tCmp (mOp (dIn false) (mVar 2) (mVar 3)) c [some f.D, some (.str u), some (.str v), some (.ref p), some (.int (s : Int)), x5, x6, x7] (h ++ l) = .ok (g v).isSome (h ++ l) := by
          simp only [tCmp_ev, mOp_ev, mVar_ev, List.getElem?_cons_succ, List.getElem?_cons_zero, bind_ok, i1, Bool.false_bne, dBl_ev, dg.at_, Option.isSome_map]
        unfold lsBody
        rw [sSeq_ev, sIf_ev, e1, toS_ok]
        cases q : g v with
        | some ns =>
          have gd := dg.at_ v
          rw [q] at gd
          have ed := ix_dict hp (show getD es (.str v) = some (wD ns) from gd)
          rw [Option.isSome_some, if_pos rfl]
          simp only [sRet_ev, mOp_ev, mVar_ev, List.getElem?_cons_succ, List.getElem?_cons_zero, bind_ok, ed, toS_ok, seq_rt]
          obtain ⟨y1, y2, y3⟩ := lay.yes _ _ q
          exact .rt (.inl ⟨l, ns, rfl, y1, fun ms hm => ⟨by rw [y2]; exact far ms hm, fun hl => y3 ms hm (by omega)⟩⟩)
        | none =>
          have s5 : sSet 5 mDict0 c [some f.D, some (.str u), some (.str v), some (.ref p), some (.int (s : Int)), x5, x6, x7] (h ++ l) = .nx [some f.D, some (.str u), some (.str v), some (.ref p), some (.int (s : Int)), some (.ref (h ++ l).length), x6, x7] ((h ++ l) ++ [.dict []]) := by
            rw [sSet_ev]; rfl
          obtain ⟨t2, es2, e, of, d2⟩ := ls_for (c := c) (t := [some f.D, some (.str u), some (.str v), some (.ref p), some (.int (s : Int)), some (.ref (h ++ l).length), x6, x7]) o rfl rfl rfl rfl hp dg (fun x ns hh => by rw [(lay.yes x ns hh).2.1]; omega)
          rw [Option.isSome_none, if_neg (by decide), sNil_ev, seq_nx, sSeq_ev, s5, seq_nx, sSeq_ev, e, seq_nx]
          have v5 : t2[5]? = some (some (.ref (h ++ l).length)) := of.same 5 (by decide)
          have et : ∃ y6 y7, t2 = [some f.D, some (.str u), some (.str v), some (.ref p), some (.int (s : Int)), some (.ref (h ++ l).length), y6, y7] := by
            have ol := of.len
            have o0 := of.same 0 (by decide)
            have o1 := of.same 1 (by decide)
            have o2 := of.same 2 (by decide)
            have o3 := of.same 3 (by decide)
            have o4 := of.same 4 (by decide)
            match t2, ol with
            | [a0, a1, a2, a3, a4, a5, a6, a7], _ =>
              simp at o0 o1 o2 o3 o4 v5
              exact ⟨a6, a7, by rw [o0, o1, o2, o3, o4, v5]; simp⟩
          obtain ⟨y6, y7, rfl⟩ := et
          have s3 : sSet 3 (mVar 5) c [some f.D, some (.str u), some (.str v), some (.ref p), some (.int (s : Int)), some (.ref (h ++ l).length), y6, y7] ((h ++ l) ++ [.dict es2]) = .nx [some f.D, some (.str u), some (.str v), some (.ref (h ++ l).length), some (.int (s : Int)), some (.ref (h ++ l).length), y6, y7] ((h ++ l) ++ [.dict es2]) := rfl
          rw [s3]
          refine .nx ⟨s + 1, m, (h ++ l).length, l ++ [.dict es2], es2, _, _, _, _, _, rfl, by omega, rfl, by rw [List.append_assoc], by rw [← List.append_assoc]; exact get_last _ _, d2, lay.next, fun ns hns => ?_⟩
          have l1 := far ns hns
          have l2 := lay.no _ q ns hns
          omega)
    (by
      rintro t' h' ⟨s, m, p, l, es, g, x4, x5, x6, x7, hd, hsm, rfl, rfl, hp, dg, lay, far⟩
      cases m with
      | succ m => simp [List.range'_succ] at hd
      | zero =>
        have : s = 8 := by omega
        subst this
        exact ⟨trivial, .inr ⟨_, l, rfl, far⟩⟩)
    ⟨0, 8, h.length, [.dict [(.str u, wD [])]], _, _, none, none, none, none, by rw [rngD_eq, List.range_eq_range'], rfl, rfl, rfl, get_last _ _, d0, Lay.zero f u, fun ns _ => Nat.zero_le _⟩
  rcases key with ⟨l, ns, e, best⟩ | ⟨t', l, e, far⟩
  · refine ⟨some ns, ?_, .inr ⟨ns, rfl, best⟩⟩
    rw [hb, sSeq_ev, s1, seq_nx, sSeq_ev, e]
    exact fin1_app (lo_words _ (some ns))
  · refine ⟨none, ?_, .inl ⟨rfl, fun ns hns => ?_⟩⟩
    · rw [hb, sSeq_ev, s1, seq_nx, sSeq_ev, e, seq_nx]
      exact fin1_app (lo_non _)
    · obtain ⟨k, _, d⟩ := Dst.ex _ _ (Nat.le_refl _) hns
      have := d.few o hv
      have := o.s8
      obtain ⟨⟨ms, hm, lm⟩, _⟩ := d
      have := far ms hm
      omega
end K04

namespace K04
open PySem L2 Ev
/-! ### what is told of a state, of a pair -/
theorem gd_strs {l : List (List Nat)} (hl : l.length ≤ 1000) : gd (.tup (l.map D.str)) = true := by
  have : ∀ l : List (List Nat), gdA (l.map D.str) = true := fun l => by
    induction l with
    | nil => rfl
    | cons a l ih => simp [gdA, gd, ih]
  simp [gd, this, hl]
theorem alikeA {n : Nat} (hn : 4 ≤ n) (k : List Nat) {x : Ev.D} (hx : gd x = true) (hd : x.dep ≤ 1) (h : Hd) : callN T n 18 [.tup [.str k, x], .tup [.str k, x]] h = .ok (.bl true) h :=
  c_alike n _ h (by simp [gd, gdA, hx]) (by simp [D.dep, D.depA]; omega)
theorem dep_tup (l : List (List Nat)) : (D.tup (l.map D.str)).dep ≤ 1 := by simp only [D.dep, dep_strs]; omega
theorem gd_int (x : Option Int) : gd (intD x) = true := by cases x <;> rfl
theorem dep_int (x : Option Int) : (intD x).dep ≤ 1 := by cases x <;> simp [intD, D.dep]
theorem c_state {n : Nat} (hn : 7 ≤ n) {f : Flow} (o : f.ok) (h0 : ∀ w ∈ f.ws, 0 ≤ w.d ∧ w.d ≤ 20) {u : List Nat} (hu : u ∈ f.st) (h : Hd) : callN T n 28 [f.D, .str u] h = .ok (.bl true) h := by
  obtain ⟨m, rfl⟩ := lvl hn
  rw [call_at (F := ⟨2, 5, b__law_state_told⟩) rfl]
  obtain ⟨F, e19, hF, lF⟩ := c_reach (n := m + 6) (by omega) o hu [] h
  have s8 := o.s8
  obtain ⟨H, hH⟩ : ∃ H : Hd, H = h ++ [.lst (F.map D.str)] := ⟨_, rfl⟩
  have gF : H[h.length]? = some (.lst (F.map D.str)) := by rw [hH]; exact get_last h _
  have fH : fin1 h (.bl true) H = .ok (.bl true) h := by rw [hH]; exact fin1_app (lo_bl _ _)
  rw [← hH] at e19
  have hP : ∀ x, decide (x ∈ F) = rc f u x := fun x => by
    rw [Bool.eq_iff_iff, decide_eq_true_iff, rc_iff, hF, rch_none o]
  -- the three answers
  have l0 : (f.st.filter (rc f u)).length ≤ 1000 := by have := List.length_filter_le (rc f u) f.st; omega
  have l1 : (f.st.filter fun x => !(decide (u ≠ x) && sv f (some x) u)).length ≤ 1000 := by have := List.length_filter_le (fun x => !(decide (u ≠ x) && sv f (some x) u)) f.st; omega
  have t0 := told_ans (asked (w := 0) (a3 := .str []) (a4 := .int 0) (.inl ⟨rfl, rfl, rfl⟩) (c_reachable (n := m + 4) (by omega) o hu H) (lo_strs _ _)) (lo_strs _ _)
  have q0 := alikeA (n := m + 6) (by omega) wAns (gd_strs l0) (dep_tup _) H
  have t2 := told_ans (asked (w := 2) (a3 := .str []) (a4 := .int 0) (.inr (.inr (.inl ⟨rfl, rfl, rfl⟩))) (c_least (n := m + 4) (by omega) o hu H) (lo_intD _ _)) (lo_intD _ _)
  have q2 := alikeA (n := m + 6) (by omega) wAns (gd_int (relN true 1000000000 f (st0 f.cl) f.st.length u)) (dep_int _) H
  have e23 := c_lleast (n := m + 6) (by omega) o h0 hu H
  have e20 := fun (y : List Nat) => c_saved2 (n := m + 6) (by omega) o hu y H
  have cm := c_must (n := m + 4) (by omega) o hu H
  obtain ⟨dM, tM, eM, qM⟩ : ∃ dM : Ev.D, callN T (m + 6) 27 [.int 1, f.D, .str u, .str [], .int 0] H = .ok dM H ∧ dM = (if sv f none u = true then .tup [.str wAns, .tup ((f.st.filter fun x => !(decide (u ≠ x) && sv f (some x) u)).map D.str)] else .tup [.str wRef, .str wDead]) ∧ callN T (m + 6) 18 [dM, dM] H = .ok (.bl true) H := by
    by_cases q : sv f none u = true
    · rw [if_pos q] at cm
      refine ⟨_, told_ans (asked (w := 1) (a3 := .str []) (a4 := .int 0) (.inr (.inl ⟨rfl, rfl, rfl⟩)) cm (lo_strs _ _)) (lo_strs _ _), by rw [if_pos q], alikeA (n := m + 6) (by omega) wAns (gd_strs l1) (dep_tup _) H⟩
    · rw [if_neg q] at cm
      refine ⟨_, told_ref (askedX (w := 1) (a3 := .str []) (a4 := .int 0) (.inr (.inl ⟨rfl, rfl, rfl⟩)) cm), by rw [if_neg q], alike2 (n := m + 6) (by omega) wRef wDead H⟩
  have t0 : callN T (m + 6) 27 [.int 0, f.D, .str u, .str [], .int 0] H = .ok (.tup [.str wAns, .tup ((f.st.filter (rc f u)).map D.str)]) H := t0
  have t2 : callN T (m + 6) 27 [.int 2, f.D, .str u, .str [], .int 0] H = .ok (.tup [.str wAns, intD (relN true 1000000000 f (st0 f.cl) f.st.length u)]) H := t2
  generalize callN T (m + 6) = c at *
  generalize intD (relN true 1000000000 f (st0 f.cl) f.st.length u) = dL at *
  have ea : ([f.D, .str u].map some ++ List.replicate (5 - 2) (none : Option Ev.D)) = [some f.D, some (.str u), none, none, none] := rfl
  rw [runFn_at (np := 2) (nn := 5) rfl ea]
  have hb : b__law_state_told = sSeq (sSet 2 (mCall 19 (aCons (mVar 0) (aCons (mVar 1) (aCons (mC (.str [])) aNil)))))
    (sSeq (sSet 3 (mTup (aCons (mC (.str wAns)) (aCons (mB gTuple (aCons (mComp false (iVal (mOp dIx (mVar 0) (mC (.int 0)))) (.nm 4) [4] (tCmp (mOp (dIn false) (mVar 4) (mVar 2))) (mVar 4)) aNil)) aNil))))
    (sSeq (chkM (mCall 27 (aCons (mC (.int 0)) (aCons (mVar 0) (aCons (mVar 1) (aCons (mC (.str [])) (aCons (mC (.int 0)) aNil)))))) (mVar 3))
    (sSeq (sSet 3 (mTup (aCons (mC (.str wRef)) (aCons (mC (.str wDead)) aNil))))
    (sSeq (sIf (tVal (mCall 20 (aCons (mVar 0) (aCons (mVar 1) (aCons (mC (.str [])) aNil)))))
      (sSet 3 (mTup (aCons (mC (.str wAns)) (aCons (mB gTuple (aCons (mComp false (iVal (mOp dIx (mVar 0) (mC (.int 0)))) (.nm 4) [4] (tOr (tCmp (mOp (dEq false) (mVar 4) (mVar 1))) (tNot (tVal (mCall 20 (aCons (mVar 0) (aCons (mVar 1) (aCons (mVar 4) aNil))))))) (mVar 4)) aNil)) aNil))))
      sNil)
    (sSeq (chkM (mCall 27 (aCons (mC (.int 1)) (aCons (mVar 0) (aCons (mVar 1) (aCons (mC (.str [])) (aCons (mC (.int 0)) aNil)))))) (mVar 3))
    (sRet (mCall 18 (aCons (mCall 27 (aCons (mC (.int 2)) (aCons (mVar 0) (aCons (mVar 1) (aCons (mC (.str [])) (aCons (mC (.int 0)) aNil)))))) (aCons (mTup (aCons (mC (.str wAns)) (aCons (mCall 23 (aCons (mVar 0) (aCons (mVar 1) aNil))) aNil))) aNil))))))))) := rfl
  have s2 : sSet 2 (mCall 19 (aCons (mVar 0) (aCons (mVar 1) (aCons (mC (.str [])) aNil)))) c [some f.D, some (.str u), none, none, none] h = .nx [some f.D, some (.str u), some (.ref h.length), none, none] H := by
    simp [e19]
  have em0 := comp_states (c := c) (t := [some f.D, some (.str u), some (.ref h.length), none, none]) (h := H) (i := 4) (it := iVal (mOp dIx (mVar 0) (mC (.int 0)))) (K := tCmp (mOp (dIn false) (mVar 4) (mVar 2))) (l := f.st) (by simp [f0, dIter]) (by simp) (rc f u) (by omega) (fun x hx => by
    have := in_ref (n := false) (x := x) gF
    simp [wipeT, this, hP])
  have s3 : sSet 3 (mTup (aCons (mC (.str wAns)) (aCons (mB gTuple (aCons (mComp false (iVal (mOp dIx (mVar 0) (mC (.int 0)))) (.nm 4) [4] (tCmp (mOp (dIn false) (mVar 4) (mVar 2))) (mVar 4)) aNil)) aNil))) c [some f.D, some (.str u), some (.ref h.length), none, none] H = .nx [some f.D, some (.str u), some (.ref h.length), some (.tup [.str wAns, .tup ((f.st.filter (rc f u)).map D.str)]), none] H := by
    rw [sSet_ev, mTup_ev, aCons_ev, mC_ev, bind_ok, aCons_ev, mB_ev, aCons_ev, em0]
    simp only [bind_ok, aNil_ev, tup_of]
    rw [freshT_ev _ (by simp), toS_ok]
    rfl
  have k0 := chk (c := c) (t := [some f.D, some (.str u), some (.ref h.length), some (.tup [.str wAns, .tup ((f.st.filter (rc f u)).map D.str)]), none]) (h := H) (a := mCall 27 (aCons (mC (.int 0)) (aCons (mVar 0) (aCons (mVar 1) (aCons (mC (.str [])) (aCons (mC (.int 0)) aNil)))))) (b := mVar 3) (by simp [t0]) rfl q0
  have s3' : sSet 3 (mTup (aCons (mC (.str wRef)) (aCons (mC (.str wDead)) aNil))) c [some f.D, some (.str u), some (.ref h.length), some (.tup [.str wAns, .tup ((f.st.filter (rc f u)).map D.str)]), none] H = .nx [some f.D, some (.str u), some (.ref h.length), some (.tup [.str wRef, .str wDead]), none] H := by
    simp
  have e20' := e20 []
  rw [sv_none o] at e20'
  have tt : tVal (mCall 20 (aCons (mVar 0) (aCons (mVar 1) (aCons (mC (.str [])) aNil)))) c [some f.D, some (.str u), some (.ref h.length), some (.tup [.str wRef, .str wDead]), none] H = .ok (sv f none u) H := by
    simp [e20', dTrue, D.see]
  have em1 := comp_states (c := c) (t := [some f.D, some (.str u), some (.ref h.length), some (.tup [.str wRef, .str wDead]), none]) (h := H) (i := 4) (it := iVal (mOp dIx (mVar 0) (mC (.int 0)))) (K := tOr (tCmp (mOp (dEq false) (mVar 4) (mVar 1))) (tNot (tVal (mCall 20 (aCons (mVar 0) (aCons (mVar 1) (aCons (mVar 4) aNil))))))) (l := f.st) (by simp [f0, dIter]) (by simp) (fun x => !(decide (u ≠ x) && sv f (some x) u)) (by omega) (fun x hx => by
    have := e20 x
    by_cases q : u = x
    · subst q; simp [wipeT, eq_w]
    · have q' : ¬ x = u := fun z => q z.symm
      simp [wipeT, eq_w, q, q', this, dTrue, D.see])
  have sI : sIf (tVal (mCall 20 (aCons (mVar 0) (aCons (mVar 1) (aCons (mC (.str [])) aNil)))))
      (sSet 3 (mTup (aCons (mC (.str wAns)) (aCons (mB gTuple (aCons (mComp false (iVal (mOp dIx (mVar 0) (mC (.int 0)))) (.nm 4) [4] (tOr (tCmp (mOp (dEq false) (mVar 4) (mVar 1))) (tNot (tVal (mCall 20 (aCons (mVar 0) (aCons (mVar 1) (aCons (mVar 4) aNil))))))) (mVar 4)) aNil)) aNil))))
      sNil c [some f.D, some (.str u), some (.ref h.length), some (.tup [.str wRef, .str wDead]), none] H = .nx [some f.D, some (.str u), some (.ref h.length), some dM, none] H := by
    rw [sIf_ev, tt, toS_ok]
    by_cases q : sv f none u = true
    · rw [if_pos q] at eM
      rw [q, if_pos rfl, sSet_ev, mTup_ev, aCons_ev, mC_ev, bind_ok, aCons_ev, mB_ev, aCons_ev, em1]
      simp only [bind_ok, aNil_ev, tup_of]
      rw [freshT_ev _ (by simp), toS_ok, eM]
      rfl
    · rw [if_neg q] at eM
      rw [if_neg q, eM]
      rfl
  have k1 := chk (c := c) (t := [some f.D, some (.str u), some (.ref h.length), some dM, none]) (h := H) (a := mCall 27 (aCons (mC (.int 1)) (aCons (mVar 0) (aCons (mVar 1) (aCons (mC (.str [])) (aCons (mC (.int 0)) aNil)))))) (b := mVar 3) (by simp [tM]) rfl qM
  have sL : sRet (mCall 18 (aCons (mCall 27 (aCons (mC (.int 2)) (aCons (mVar 0) (aCons (mVar 1) (aCons (mC (.str [])) (aCons (mC (.int 0)) aNil)))))) (aCons (mTup (aCons (mC (.str wAns)) (aCons (mCall 23 (aCons (mVar 0) (aCons (mVar 1) aNil))) aNil))) aNil))) c [some f.D, some (.str u), some (.ref h.length), some dM, none] H = .rt (.bl true) H := by
    simp [t2, e23, q2]
  rw [hb, sSeq_ev, s2, seq_nx, sSeq_ev, s3, seq_nx, sSeq_ev, k0, seq_nx, sSeq_ev, s3', seq_nx, sSeq_ev, sI, seq_nx, sSeq_ev, k1, seq_nx, sL, fin_rt]
  exact fH
theorem gd_word {x : Option Word} (hx : ∀ ns, x = some ns → ns.length ≤ 1000) : gd (wordD x) = true := by
  cases x with
  | none => rfl
  | some ns => exact gd_strs (hx ns rfl)
theorem dep_word (x : Option Word) : (wordD x).dep ≤ 1 := by
  cases x with
  | none => simp [wordD, D.dep]
  | some ns => exact dep_tup ns
theorem c_pair {n : Nat} (hn : 7 ≤ n) {f : Flow} (o : f.ok) (uq : Uq f) {u v : List Nat} (hu : u ∈ f.st) (hv : v ∈ f.st) (z : Int) (h : Hd) : callN T n 29 [f.D, .str u, .str v, .int z] h = .ok (.bl true) h := by
  obtain ⟨m, rfl⟩ := lvl hn
  rw [call_at (F := ⟨4, 5, b__law_pair_told⟩) rfl]
  have s8 := o.s8
  obtain ⟨r1, e1, p1⟩ := c_short (n := m + 4) (by omega) o uq hu hv h
  obtain ⟨r2, e2, p2⟩ := c_lshort (n := m + 6) (by omega) o (u := u) hv h
  have er : r2 = r1 := by
    rcases p1 with ⟨rfl, n1⟩ | ⟨ns, rfl, b1⟩ <;> rcases p2 with ⟨rfl, n2⟩ | ⟨ms, rfl, b2⟩
    · rfl
    · exact absurd b2.1 (n1 ms)
    · exact absurd b1.1 (n2 ns)
    · rw [b1.uniq b2]
  subst er
  have hl : ∀ ns, r2 = some ns → ns.length ≤ 1000 := fun ns e => by
    rcases p1 with ⟨rfl, n1⟩ | ⟨ms, rfl, b1⟩
    · cases e
    · injection e with e
      subst e
      have := b1.dst.few o hv
      omega
  have t3 := told_ans (asked (w := 3) (a3 := .str v) (a4 := .int 0) (.inr (.inr (.inr (.inl ⟨rfl, rfl, rfl⟩)))) e1 (lo_words _ _)) (lo_words _ _)
  have q3 := alikeA (n := m + 6) (by omega) wAns (gd_word hl) (dep_word _) h
  have cc := c_count (n := m + 4) (by omega) o hu hv z h
  have e22 := fun (h0 : 0 ≤ z) (h1 : z ≤ 30) => c_lcounted (n := m + 6) (by omega) o u v z h0 h1 h
  obtain ⟨dM, tM, eM, qM⟩ : ∃ dM : Ev.D, callN T (m + 6) 27 [.int 4, f.D, .str u, .str v, .int z] h = .ok dM h ∧ dM = (if 0 ≤ z ∧ z ≤ 30 then .tup [.str wAns, .int (rounds false f (del u) z.toNat v)] else .tup [.str wVal, .str wLen]) ∧ callN T (m + 6) 18 [dM, dM] h = .ok (.bl true) h := by
    by_cases q : 0 ≤ z ∧ z ≤ 30
    · rw [if_pos q] at cc
      refine ⟨_, told_ans (asked (w := 4) (.inr (.inr (.inr (.inr (.inl ⟨rfl, rfl, rfl⟩))))) cc (lo_int _ _)) (lo_int _ _), by rw [if_pos q], alikeA (n := m + 6) (by omega) wAns rfl (by simp [D.dep]) h⟩
    · rw [if_neg q] at cc
      refine ⟨_, told_val (askedX (w := 4) (.inr (.inr (.inr (.inr (.inl ⟨rfl, rfl, rfl⟩))))) cc), by rw [if_neg q], alike2 (n := m + 6) (by omega) wVal wLen h⟩
  have t3 : callN T (m + 6) 27 [.int 3, f.D, .str u, .str v, .int 0] h = .ok (.tup [.str wAns, wordD r2]) h := t3
  generalize callN T (m + 6) = c at *
  generalize wordD r2 = dW at *
  have ea : ([f.D, .str u, .str v, .int z].map some ++ List.replicate (5 - 4) (none : Option Ev.D)) = [some f.D, some (.str u), some (.str v), some (.int z), none] := rfl
  rw [runFn_at (np := 4) (nn := 5) rfl ea]
  have hb : b__law_pair_told = sSeq (chkM (mCall 27 (aCons (mC (.int 3)) (aCons (mVar 0) (aCons (mVar 1) (aCons (mVar 2) (aCons (mC (.int 0)) aNil)))))) (mTup (aCons (mC (.str wAns)) (aCons (mCall 21 (aCons (mVar 0) (aCons (mVar 1) (aCons (mVar 2) aNil)))) aNil))))
    (sSeq (sSet 4 (mTup (aCons (mC (.str wVal)) (aCons (mC (.str wLen)) aNil))))
    (sSeq (sIf (tAnd (tCmp (mOp dLe (mC (.int 0)) (mVar 3))) (tCmp (mOp dLe (mVar 3) (mC (.int 30)))))
      (sSet 4 (mTup (aCons (mC (.str wAns)) (aCons (mCall 22 (aCons (mVar 0) (aCons (mVar 1) (aCons (mVar 2) (aCons (mVar 3) aNil))))) aNil))))
      sNil)
    (sRet (mCall 18 (aCons (mCall 27 (aCons (mC (.int 4)) (aCons (mVar 0) (aCons (mVar 1) (aCons (mVar 2) (aCons (mVar 3) aNil)))))) (aCons (mVar 4) aNil)))))) := rfl
  have k0 := chk (c := c) (t := [some f.D, some (.str u), some (.str v), some (.int z), none]) (h := h) (a := mCall 27 (aCons (mC (.int 3)) (aCons (mVar 0) (aCons (mVar 1) (aCons (mVar 2) (aCons (mC (.int 0)) aNil)))))) (b := mTup (aCons (mC (.str wAns)) (aCons (mCall 21 (aCons (mVar 0) (aCons (mVar 1) (aCons (mVar 2) aNil)))) aNil))) (by simp [t3]) (by simp [e2]) q3
  have s4 : sSet 4 (mTup (aCons (mC (.str wVal)) (aCons (mC (.str wLen)) aNil))) c [some f.D, some (.str u), some (.str v), some (.int z), none] h = .nx [some f.D, some (.str u), some (.str v), some (.int z), some (.tup [.str wVal, .str wLen])] h := by simp
  have sI : sIf (tAnd (tCmp (mOp dLe (mC (.int 0)) (mVar 3))) (tCmp (mOp dLe (mVar 3) (mC (.int 30)))))
      (sSet 4 (mTup (aCons (mC (.str wAns)) (aCons (mCall 22 (aCons (mVar 0) (aCons (mVar 1) (aCons (mVar 2) (aCons (mVar 3) aNil))))) aNil))))
      sNil c [some f.D, some (.str u), some (.str v), some (.int z), some (.tup [.str wVal, .str wLen])] h = .nx [some f.D, some (.str u), some (.str v), some (.int z), some dM] h := by
    by_cases h0 : 0 ≤ z
    · by_cases h1 : z ≤ 30
      · rw [if_pos ⟨h0, h1⟩] at eM
        simp [dCmp, h0, h1, e22 h0 h1, eM]
      · rw [if_neg (fun q => h1 q.2)] at eM
        simp [dCmp, h0, h1, eM]
    · rw [if_neg (fun q => h0 q.1)] at eM
      simp [dCmp, h0, eM]
  have sL : sRet (mCall 18 (aCons (mCall 27 (aCons (mC (.int 4)) (aCons (mVar 0) (aCons (mVar 1) (aCons (mVar 2) (aCons (mVar 3) aNil)))))) (aCons (mVar 4) aNil))) c [some f.D, some (.str u), some (.str v), some (.int z), some dM] h = .rt (.bl true) h := by
    simp [tM, qM]
  rw [hb, sSeq_ev, k0, seq_nx, sSeq_ev, s4, seq_nx, sSeq_ev, sI, seq_nx, sL, fin_rt]
  exact fin1_same (hd := lo_bl _ _)
end K04

namespace K04
open PySem L2 Ev
/-! ### names: the parts -/
abbrev abc : List Nat := [97, 98, 99, 100, 101, 102, 103, 104, 105, 106, 107, 108, 109, 110, 111, 112, 113, 114, 115, 116, 117, 118, 119, 120, 121, 122]
theorem abc_get : ∀ j : Fin 26, abc[j.val]? = some (97 + j.val) := by decide
theorem abc_at {d : Int} (h0 : 0 ≤ d) (h1 : d < 26) (h : Hd) : dIx (.str abc) (.int d) h = .ok (.str [97 + d.toNat]) h := by
  have e := abc_get ⟨d.toNat, by omega⟩
  have ei : ixI abc.length d = some d.toNat := by
    unfold ixI
    rw [if_pos h0, if_pos (by simpa using h1)]
  show (match (ixI abc.length d).bind fun j => abc[j]? with | some ch => Res.ok (D.str [ch]) h | none => .stuck) = _
  rw [ei, Option.bind_some, e]
theorem cutL_len {α : Type} (xs : List α) (lo hi : Option Int) : (cutL xs lo hi).length ≤ xs.length := by
  unfold cutL
  rw [List.length_take, List.length_drop]
  omega
theorem cutL_map {α β : Type} (f : α → β) (xs : List α) (lo hi : Option Int) : cutL (xs.map f) lo hi = (cutL xs lo hi).map f := by
  unfold cutL
  simp [List.map_take, List.map_drop]
theorem cut_str {m : Bool} (s : List Nat) (lo hi : Option Int) (h : Hd) : dCut m (.str s) lo hi h = .ok (.str (cutL s lo hi)) h := rfl
theorem cutL_ne {xs : List Nat} {s : Int} (hx : xs ≠ []) (hs : 1 ≤ s) : cutL xs none (some s) ≠ [] := by
  have e1 : cutI xs.length xs.length (some s) = min s.toNat xs.length := if_neg (by omega)
  have e2 : cutI xs.length 0 none = 0 := rfl
  unfold cutL
  rw [e1, e2]
  cases xs with
  | nil => exact absurd rfl hx
  | cons a xs =>
    intro h
    have := congrArg List.length h
    simp at this
    omega
theorem add_str {m : Bool} {a b : List Nat} (ha : a.length ≤ 1000) (hb : b.length ≤ 1000) (h : Hd) : dAdd m (.str a) (.str b) h = .ok (.str (a ++ b)) h := by
  show freshS (a ++ b) h = _
  unfold freshS
  rw [if_pos (by rw [List.length_append]; omega)]
theorem dMul_l {m : Bool} {i j : Int} {h : Hd} (h1 : -1000000000 < i) (h2 : i < 1000000000) : dMul m (.int i) (.int j) h = .ok (.int (i * j)) h := by
  have e1 : -18446744073709551616 < i := by omega
  have e2 : i < 18446744073709551616 := by omega
  simp [dMul, e1, e2]
theorem mul_lst {xs : List Ev.D} {z : Int} {N : Nat} (hz : z = N) (hN : N ≤ 1000) (hx : xs.length ≤ 1000) (h : Hd) : dMul false (.lst xs) (.int z) h = .ok (.lst (List.replicate N xs).flatten) h := by
  have e : dMul false (.lst xs) (.int z) h = if z < 2 ^ 62 ∧ -(2 ^ 62) < z ∧ xs.length * z.toNat ≤ sizeLine then fresh false (List.replicate z.toNat xs).flatten h else .stuck := rfl
  have e1 : (2 : Int) ^ 62 = 4611686018427387904 := by decide
  have ez : z.toNat = N := by omega
  have hm : xs.length * N ≤ 1000 * 1000 := Nat.mul_le_mul hx hN
  rw [e, ez, if_pos ⟨by rw [e1]; omega, by rw [e1]; omega, by rw [sizeLine_eq]; omega⟩, freshF]
  rw [List.length_flatten, List.map_replicate, List.sum_replicate_nat]
  have : N * xs.length = xs.length * N := Nat.mul_comm _ _
  omega
theorem add_lst {xs ys : List Ev.D} (hx : xs.length ≤ 100000) (hy : ys.length ≤ 100000) (h : Hd) : dAdd false (.lst xs) (.lst ys) h = .ok (.lst (xs ++ ys)) h := by
  show fresh false (xs ++ ys) h = _
  rw [freshF _ (by rw [List.length_append]; omega)]
theorem rep_at {α : Type} (xs : List α) : ∀ (n i j : Nat), j < xs.length → i < n → ((List.replicate n xs).flatten)[i * xs.length + j]? = xs[j]?
  | 0, _, _, _, h => absurd h (Nat.not_lt_zero _)
  | n + 1, 0, j, hj, _ => by
    rw [List.replicate_succ, List.flatten_cons, Nat.zero_mul, Nat.zero_add, List.getElem?_append_left hj]
  | n + 1, i + 1, j, hj, hi => by
    rw [List.replicate_succ, List.flatten_cons, List.getElem?_append_right (by rw [Nat.succ_mul]; omega)]
    rw [show (i + 1) * xs.length + j - xs.length = i * xs.length + j by rw [Nat.succ_mul]; omega]
    exact rep_at xs n i j hj (by omega)
theorem Fit.get {ds ss : List Int} (h : Fit ds ss) : ∀ {i : Nat} {s : Int}, ss[i]? = some s → ∃ d, ds[i]? = some d ∧ 0 ≤ d ∧ d < s := by
  induction h with
  | nil => intro i s e; simp at e
  | @cons d s ds ss h0 h1 _ ih =>
    intro i s' e
    cases i with
    | zero => simp at e; exact ⟨d, rfl, h0, by omega⟩
    | succ i => exact ih (by simpa using e)
theorem row_ix {ds : List Int} {L : Nat} {H : Hd} (e : H[L]? = some (.lst (ds.map D.int))) {z : Int} {n : Nat} (hz : z = n) {d : Int} (hd : ds[n]? = some d) : dIx (.ref L) (.int z) H = .ok (.int d) H := by
  subst hz
  exact ix_ref e (by rw [List.getElem?_map, hd]; rfl)
abbrev ssN (N : Nat) : List Int := [4, 12] ++ List.replicate 12 26 ++ (List.replicate N [12, 26, 12]).flatten
theorem ssN_ok {N : Nat} (hN : N ≤ 100) : (∀ s ∈ ssN N, 0 < s ∧ s < 1000000) ∧ (ssN N).length ≤ 500 := by
  constructor
  · intro s hs
    rcases List.mem_append.mp hs with hs | hs
    · rcases List.mem_append.mp hs with hs | hs
      · simp at hs; omega
      · have := List.eq_of_mem_replicate hs; omega
    · obtain ⟨l, hl, hs⟩ := List.mem_flatten.mp hs
      rw [List.eq_of_mem_replicate hl] at hs
      simp at hs
      omega
  · simp [List.length_flatten]
    omega
theorem ssN_at {N k : Nat} (hk : k < N) : (ssN N)[14 + 3 * k]? = some 12 ∧ (ssN N)[15 + 3 * k]? = some 26 ∧ (ssN N)[16 + 3 * k]? = some 12 := by
  have r := fun j hj => rep_at ([12, 26, 12] : List Int) N k j hj hk
  have e : ∀ j, (ssN N)[14 + j]? = ((List.replicate N ([12, 26, 12] : List Int)).flatten)[j]? := fun j => by
    show (([4, 12] ++ List.replicate 12 26) ++ _)[14 + j]? = _
    rw [List.getElem?_append_right (by simp)]
    congr 1
    simp
  refine ⟨?_, ?_, ?_⟩
  · rw [e, show 3 * k = k * 3 + 0 by omega]; exact r 0 (by decide)
  · rw [show 15 + 3 * k = 14 + (k * 3 + 1) by omega, e]; exact r 1 (by decide)
  · rw [show 16 + 3 * k = 14 + (k * 3 + 2) by omega, e]; exact r 2 (by decide)
theorem ssN_stem {N i : Nat} (h2 : 2 ≤ i) (h14 : i < 14) : (ssN N)[i]? = some 26 := by
  show (([4, 12] ++ List.replicate 12 26) ++ _)[i]? = _
  rw [List.getElem?_append_left (by simp; omega), List.getElem?_append_right (by simpa using h2), List.getElem?_replicate]
  rw [if_pos (by simp; omega)]
end K04

namespace K04
open PySem L2 Ev
/-! ### names: the walk -/
abbrev ixM (a b : Int) : M := mOp (dAdd false) (mC (.int a)) (mOp (dMul false) (mC (.int b)) (mVar 6))
abbrev nmHead (R : MS) : MS := (sSeq (sSet 7 (mOp dIx (mVar 3) (ixM 14 3)))
  (sSeq (sSet 8 (mOp dIx (mVar 2) (mOp dIx (mVar 3) (ixM 15 3))))
  (sSeq (sSet 9 (mOp (dAdd false) (mC (.int 1)) (mOp dIx (mVar 3) (ixM 16 3))))
  (sSeq (sSet 10 (mCut false (mOp (dAdd false) (mOp (dAdd false) (mVar 8) (mCut false (mVar 4) (pYes (mVar 7)) pNo)) (mCut false (mVar 4) pNo (pYes (mVar 7)))) pNo (pYes (mVar 9))))
  (sSeq (sIf (tCmp (mOp (dEq false) (mOp dIx (mVar 3) (mC (.int 0))) (mC (.int 1))))
  (sSet 10 (mCut false (mVar 4) pNo (pYes (mVar 9))))
  sNil)
  (sSeq (sIf (tCmp (mOp (dEq false) (mOp dIx (mVar 3) (mC (.int 0))) (mC (.int 2))))
  (sSeq (sSet 9 (mOp (dAdd false) (mC (.int 1)) (mOp dIx (mVar 3) (mC (.int 1)))))
  (sSeq (sSet 7 (mOp dMod (mB gInt (aCons (mVar 7) aNil)) (mVar 9)))
  (sSet 10 (mOp (dAdd false) (mOp (dAdd false) (mCut false (mVar 4) pNo (pYes (mVar 7))) (mVar 8)) (mCut false (mVar 4) (pYes (mOp (dAdd false) (mVar 7) (mC (.int 1)))) (pYes (mVar 9)))))))
  sNil) R))))))
theorem nm_head {c : Calls} {H : Hd} {L N k : Nat} {ds : List Int} {stem : List Nat} {x0 x1 x5 x7 x8 x9 x10 x11 : Option Ev.D} (hL : H[L]? = some (.lst (ds.map D.int))) (fit : Fit ds (ssN N)) (hk : k < N) (hs0 : stem ≠ []) (hs : stem.length ≤ 12) {zk : Int} (hzk : zk = k) :
    ∃ y7 y8 y9 name, name ≠ [] ∧ ∀ R, nmHead R c [x0, x1, some (.str abc), some (.ref L), some (.str stem), x5, some (.int zk), x7, x8, x9, x10, x11, none] H = R c [x0, x1, some (.str abc), some (.ref L), some (.str stem), x5, some (.int zk), y7, y8, y9, some (.str name), x11, none] H := by
  obtain ⟨a1, a2, a3⟩ := ssN_at hk
  obtain ⟨p, ep, p0, p1⟩ := fit.get a1
  obtain ⟨l, el, l0, l1⟩ := fit.get a2
  obtain ⟨s, es, s0, s1⟩ := fit.get a3
  obtain ⟨d0, e0, _, _⟩ := fit.get (show (ssN N)[0]? = some 4 from rfl)
  obtain ⟨d1, e1, g0, g1⟩ := fit.get (show (ssN N)[1]? = some 12 from rfl)
  have i14 : mOp dIx (mVar 3) (ixM 14 3) c [x0, x1, some (.str abc), some (.ref L), some (.str stem), x5, some (.int zk), x7, x8, x9, x10, x11, none] H = .ok (.int p) H := by
    have := row_ix hL (z := 14 + 3 * zk) (n := 14 + 3 * k) (by omega) ep
    simp only [mOp_ev, mVar_ev, List.getElem?_cons_succ, List.getElem?_cons_zero, bind_ok, mC_ev, dMul_l (show (-1000000000 : Int) < 3 by decide) (show (3 : Int) < 1000000000 by decide)]
    exact this
  have r7 : sSet 7 (mOp dIx (mVar 3) (ixM 14 3)) c [x0, x1, some (.str abc), some (.ref L), some (.str stem), x5, some (.int zk), x7, x8, x9, x10, x11, none] H = .nx [x0, x1, some (.str abc), some (.ref L), some (.str stem), x5, some (.int zk), some (.int p), x8, x9, x10, x11, none] H := by
    rw [sSet_ev, i14, toS_ok]; rfl
  have r8 : sSet 8 (mOp dIx (mVar 2) (mOp dIx (mVar 3) (ixM 15 3))) c [x0, x1, some (.str abc), some (.ref L), some (.str stem), x5, some (.int zk), some (.int p), x8, x9, x10, x11, none] H = .nx [x0, x1, some (.str abc), some (.ref L), some (.str stem), x5, some (.int zk), some (.int p), some (.str [97 + l.toNat]), x9, x10, x11, none] H := by
    have i15 : mOp dIx (mVar 3) (ixM 15 3) c [x0, x1, some (.str abc), some (.ref L), some (.str stem), x5, some (.int zk), some (.int p), x8, x9, x10, x11, none] H = .ok (.int l) H := by
      have := row_ix hL (z := 15 + 3 * zk) (n := 15 + 3 * k) (by omega) el
      simp only [mOp_ev, mVar_ev, List.getElem?_cons_succ, List.getElem?_cons_zero, bind_ok, mC_ev, dMul_l (show (-1000000000 : Int) < 3 by decide) (show (3 : Int) < 1000000000 by decide)]
      exact this
    have m2 : mVar 2 c [x0, x1, some (.str abc), some (.ref L), some (.str stem), x5, some (.int zk), some (.int p), x8, x9, x10, x11, none] H = .ok (.str abc) H := rfl
    rw [sSet_ev, mOp_ev, m2, bind_ok, i15, bind_ok, abc_at l0 l1, toS_ok]
    rfl
  have r9 : sSet 9 (mOp (dAdd false) (mC (.int 1)) (mOp dIx (mVar 3) (ixM 16 3))) c [x0, x1, some (.str abc), some (.ref L), some (.str stem), x5, some (.int zk), some (.int p), some (.str [97 + l.toNat]), x9, x10, x11, none] H = .nx [x0, x1, some (.str abc), some (.ref L), some (.str stem), x5, some (.int zk), some (.int p), some (.str [97 + l.toNat]), some (.int (1 + s)), x10, x11, none] H := by
    have i16 : mOp dIx (mVar 3) (ixM 16 3) c [x0, x1, some (.str abc), some (.ref L), some (.str stem), x5, some (.int zk), some (.int p), some (.str [97 + l.toNat]), x9, x10, x11, none] H = .ok (.int s) H := by
      have := row_ix hL (z := 16 + 3 * zk) (n := 16 + 3 * k) (by omega) es
      simp only [mOp_ev, mVar_ev, List.getElem?_cons_succ, List.getElem?_cons_zero, bind_ok, mC_ev, dMul_l (show (-1000000000 : Int) < 3 by decide) (show (3 : Int) < 1000000000 by decide)]
      exact this
    rw [sSet_ev, mOp_ev, mC_ev, bind_ok, i16]
    rfl
  have c1 := cutL_len stem (some p) none
  have c2 := cutL_len stem none (some p)
  obtain ⟨nm0, hn0, r10⟩ : ∃ nm0 : List Nat, nm0 ≠ [] ∧ sSet 10 (mCut false (mOp (dAdd false) (mOp (dAdd false) (mVar 8) (mCut false (mVar 4) (pYes (mVar 7)) pNo)) (mCut false (mVar 4) pNo (pYes (mVar 7)))) pNo (pYes (mVar 9))) c [x0, x1, some (.str abc), some (.ref L), some (.str stem), x5, some (.int zk), some (.int p), some (.str [97 + l.toNat]), some (.int (1 + s)), x10, x11, none] H = .nx [x0, x1, some (.str abc), some (.ref L), some (.str stem), x5, some (.int zk), some (.int p), some (.str [97 + l.toNat]), some (.int (1 + s)), some (.str nm0), x11, none] H := by
    have b1 := add_str (m := false) (a := [97 + l.toNat]) (b := cutL stem (some p) none) (by simp) (by omega) H
    have b2 := add_str (m := false) (a := [97 + l.toNat] ++ cutL stem (some p) none) (b := cutL stem none (some p)) (by simp; omega) (by omega) H
    refine ⟨cutL ([97 + l.toNat] ++ cutL stem (some p) none ++ cutL stem none (some p)) none (some (1 + s)), cutL_ne (by simp) (by omega), ?_⟩
    rw [sSet_ev]
    simp only [mCut_ev, mOp_ev, mVar_ev, List.getElem?_cons_succ, List.getElem?_cons_zero, bind_ok, pYes_ev, pNo_ev, dPart_ev, cut_str, b1, b2, toS_ok]
    rfl
  have r0 : mOp dIx (mVar 3) (mC (.int 0)) c [x0, x1, some (.str abc), some (.ref L), some (.str stem), x5, some (.int zk), some (.int p), some (.str [97 + l.toNat]), some (.int (1 + s)), some (.str nm0), x11, none] H = .ok (.int d0) H := by
    have := row_ix hL (z := 0) (n := 0) rfl e0
    simp only [mOp_ev, mVar_ev, List.getElem?_cons_succ, List.getElem?_cons_zero, bind_ok, mC_ev, this]
  obtain ⟨nm1, hn1, r11⟩ : ∃ nm1 : List Nat, nm1 ≠ [] ∧ sIf (tCmp (mOp (dEq false) (mOp dIx (mVar 3) (mC (.int 0))) (mC (.int 1)))) (sSet 10 (mCut false (mVar 4) pNo (pYes (mVar 9)))) sNil c [x0, x1, some (.str abc), some (.ref L), some (.str stem), x5, some (.int zk), some (.int p), some (.str [97 + l.toNat]), some (.int (1 + s)), some (.str nm0), x11, none] H = .nx [x0, x1, some (.str abc), some (.ref L), some (.str stem), x5, some (.int zk), some (.int p), some (.str [97 + l.toNat]), some (.int (1 + s)), some (.str nm1), x11, none] H := by
    have tt : tCmp (mOp (dEq false) (mOp dIx (mVar 3) (mC (.int 0))) (mC (.int 1))) c [x0, x1, some (.str abc), some (.ref L), some (.str stem), x5, some (.int zk), some (.int p), some (.str [97 + l.toNat]), some (.int (1 + s)), some (.str nm0), x11, none] H = .ok (decide (d0 = 1)) H := by
      rw [tCmp_ev, mOp_ev, r0, bind_ok, mC_ev, bind_ok, eq_i, bind_ok, dBl_ev]
    by_cases q : d0 = 1
    · refine ⟨cutL stem none (some (1 + s)), cutL_ne hs0 (by omega), ?_⟩
      rw [sIf_ev, tt, decide_eq_true q, toS_ok, if_pos rfl, sSet_ev]
      simp only [mCut_ev, mVar_ev, List.getElem?_cons_succ, List.getElem?_cons_zero, bind_ok, pYes_ev, pNo_ev, dPart_ev, cut_str, toS_ok]
      rfl
    · refine ⟨nm0, hn0, ?_⟩
      rw [sIf_ev, tt, decide_eq_false q, toS_ok, if_neg (by decide)]
      rfl
  obtain ⟨y7, y9, nm2, hn2, r12⟩ : ∃ (y7 y9 : Option Ev.D) (nm2 : List Nat), nm2 ≠ [] ∧ sIf (tCmp (mOp (dEq false) (mOp dIx (mVar 3) (mC (.int 0))) (mC (.int 2)))) (sSeq (sSet 9 (mOp (dAdd false) (mC (.int 1)) (mOp dIx (mVar 3) (mC (.int 1))))) (sSeq (sSet 7 (mOp dMod (mB gInt (aCons (mVar 7) aNil)) (mVar 9))) (sSet 10 (mOp (dAdd false) (mOp (dAdd false) (mCut false (mVar 4) pNo (pYes (mVar 7))) (mVar 8)) (mCut false (mVar 4) (pYes (mOp (dAdd false) (mVar 7) (mC (.int 1)))) (pYes (mVar 9))))))) sNil c [x0, x1, some (.str abc), some (.ref L), some (.str stem), x5, some (.int zk), some (.int p), some (.str [97 + l.toNat]), some (.int (1 + s)), some (.str nm1), x11, none] H = .nx [x0, x1, some (.str abc), some (.ref L), some (.str stem), x5, some (.int zk), y7, some (.str [97 + l.toNat]), y9, some (.str nm2), x11, none] H := by
    have r0 : mOp dIx (mVar 3) (mC (.int 0)) c [x0, x1, some (.str abc), some (.ref L), some (.str stem), x5, some (.int zk), some (.int p), some (.str [97 + l.toNat]), some (.int (1 + s)), some (.str nm1), x11, none] H = .ok (.int d0) H := by
      have := row_ix hL (z := 0) (n := 0) rfl e0
      simp only [mOp_ev, mVar_ev, List.getElem?_cons_succ, List.getElem?_cons_zero, bind_ok, mC_ev, this]
    have tt : tCmp (mOp (dEq false) (mOp dIx (mVar 3) (mC (.int 0))) (mC (.int 2))) c [x0, x1, some (.str abc), some (.ref L), some (.str stem), x5, some (.int zk), some (.int p), some (.str [97 + l.toNat]), some (.int (1 + s)), some (.str nm1), x11, none] H = .ok (decide (d0 = 2)) H := by
      rw [tCmp_ev, mOp_ev, r0, bind_ok, mC_ev, bind_ok, eq_i, bind_ok, dBl_ev]
    by_cases q : d0 = 2
    · have j1 := row_ix hL (z := 1) (n := 1) rfl e1
      have u9 : sSet 9 (mOp (dAdd false) (mC (.int 1)) (mOp dIx (mVar 3) (mC (.int 1)))) c [x0, x1, some (.str abc), some (.ref L), some (.str stem), x5, some (.int zk), some (.int p), some (.str [97 + l.toNat]), some (.int (1 + s)), some (.str nm1), x11, none] H = .nx [x0, x1, some (.str abc), some (.ref L), some (.str stem), x5, some (.int zk), some (.int p), some (.str [97 + l.toNat]), some (.int (1 + d1)), some (.str nm1), x11, none] H := by
        rw [sSet_ev]
        simp only [mOp_ev, mVar_ev, List.getElem?_cons_succ, List.getElem?_cons_zero, bind_ok, mC_ev, j1]
        rfl
      have u7 : sSet 7 (mOp dMod (mB gInt (aCons (mVar 7) aNil)) (mVar 9)) c [x0, x1, some (.str abc), some (.ref L), some (.str stem), x5, some (.int zk), some (.int p), some (.str [97 + l.toNat]), some (.int (1 + d1)), some (.str nm1), x11, none] H = .nx [x0, x1, some (.str abc), some (.ref L), some (.str stem), x5, some (.int zk), some (.int (p % (1 + d1))), some (.str [97 + l.toNat]), some (.int (1 + d1)), some (.str nm1), x11, none] H := by
        have : dMod (.int p) (.int (1 + d1)) H = .ok (.int (p % (1 + d1))) H := if_pos (by omega)
        rw [sSet_ev]
        simp only [mOp_ev, mB_ev, aCons_ev, aNil_ev, mVar_ev, List.getElem?_cons_succ, List.getElem?_cons_zero, bind_ok]
        show (dMod (.int p) (.int (1 + d1)) H).toS _ _ = _
        rw [this, toS_ok]
        rfl
      have c3 := cutL_len stem none (some (p % (1 + d1)))
      have c4 := cutL_len stem (some (p % (1 + d1) + 1)) (some (1 + d1))
      have b1 := add_str (m := false) (a := cutL stem none (some (p % (1 + d1)))) (b := [97 + l.toNat]) (by omega) (by simp) H
      have b2 := add_str (m := false) (a := cutL stem none (some (p % (1 + d1))) ++ [97 + l.toNat]) (b := cutL stem (some (p % (1 + d1) + 1)) (some (1 + d1))) (by simp; omega) (by omega) H
      refine ⟨some (.int (p % (1 + d1))), some (.int (1 + d1)), cutL stem none (some (p % (1 + d1))) ++ [97 + l.toNat] ++ cutL stem (some (p % (1 + d1) + 1)) (some (1 + d1)), by simp, ?_⟩
      rw [sIf_ev, tt, decide_eq_true q, toS_ok, if_pos rfl, sSeq_ev, u9, seq_nx, sSeq_ev, u7, seq_nx, sSet_ev]
      have ad : dAdd false (.int (p % (1 + d1))) (.int 1) H = .ok (.int (p % (1 + d1) + 1)) H := rfl
      simp only [mCut_ev, mOp_ev, mVar_ev, List.getElem?_cons_succ, List.getElem?_cons_zero, bind_ok, mC_ev, pYes_ev, pNo_ev, dPart_ev, cut_str, b1, ad, b2, toS_ok]
      rfl
    · refine ⟨some (.int p), some (.int (1 + s)), nm1, hn1, ?_⟩
      rw [sIf_ev, tt, decide_eq_false q, toS_ok, if_neg (by decide)]
      rfl
  refine ⟨y7, some (.str [97 + l.toNat]), y9, nm2, hn2, fun R => ?_⟩
  unfold nmHead
  rw [sSeq_ev, r7, seq_nx, sSeq_ev, r8, seq_nx, sSeq_ev, r9, seq_nx, sSeq_ev, r10, seq_nx, sSeq_ev, r11, seq_nx, sSeq_ev, r12, seq_nx]
abbrev nmIn : MS := (sIf (tCmp (mOp (dIn false) (mVar 10) (mVar 5)))
  (sSet 10 (mOp (dAdd false) (mOp dIx (mVar 2) (mVar 11)) (mOp dIx (mVar 2) (mVar 6))))
  sNil)
def cnd (k j : Nat) : List Nat := [97 + j, 97 + k]
theorem cnd_few {k : Nat} {G : Word} (hG : G.length ≤ 15) (h : ∀ j, j < 25 → cnd k j ∈ G) : False := by
  have nd : ((List.range 25).map (cnd k)).Nodup := by
    rw [List.Nodup, List.pairwise_map]
    refine List.Pairwise.imp ?_ (List.nodup_range (n := 25))
    intro a b hab e
    simp [cnd] at e
    exact hab e
  have := nodup_le nd (m := G) (fun x hx => by
    obtain ⟨j, hj, rfl⟩ := List.mem_map.mp hx
    exact h j (List.mem_range.mp hj))
  simp at this
  omega
theorem nm_in {c : Calls} {H : Hd} {M k : Nat} {G : Word} {name : List Nat} {x0 x1 x3 x4 x7 x8 x9 x11 x12 : Option Ev.D} (hM : H[M]? = some (.lst (G.map D.str))) (hk : k < 26) {zk : Int} (hzk : zk = k) (hn : name ≠ []) (hG : G.length ≤ 15) :
    ∃ name' y11, name' ≠ [] ∧ name' ∉ G ∧ sFor (iRng1 (mC (.int 26))) (.nm 11) nmIn c [x0, x1, some (.str abc), x3, x4, some (.ref M), some (.int zk), x7, x8, x9, some (.str name), x11, x12] H = .nx [x0, x1, some (.str abc), x3, x4, some (.ref M), some (.int zk), x7, x8, x9, some (.str name'), y11, x12] H := by
  have ei : iRng1 (mC (.int 26)) c [x0, x1, some (.str abc), x3, x4, some (.ref M), some (.int zk), x7, x8, x9, some (.str name), x11, x12] H = .ok ⟨rngD 0 26, none⟩ H := by
    rw [iRng1_ev, mC_ev, bind_ok, dRng1_ok _ (by omega) (by omega)]
    rfl
  have key := sFor_gen (b := nmIn) (g := .nm 11) (I := fun xs t h' => ∃ (s m : Nat) (nm : List Nat) (x11 : Option Ev.D), xs = (List.range' s m).map (fun (k : Nat) => D.int (k : Int)) ∧ s + m = 26 ∧ t = [x0, x1, some (.str abc), x3, x4, some (.ref M), some (.int zk), x7, x8, x9, some (.str nm), x11, x12] ∧ h' = H ∧ nm ≠ [] ∧ (nm ∉ G ∨ ((∀ j, j + 1 < s → cnd k j ∈ G) ∧ ∀ j, j + 1 = s → nm = cnd k j)))
    (O := fun z => ∃ (nm : List Nat) (x11 : Option Ev.D), z = .nx [x0, x1, some (.str abc), x3, x4, some (.ref M), some (.int zk), x7, x8, x9, some (.str nm), x11, x12] H ∧ nm ≠ [] ∧ nm ∉ G) ei
    (by
      rintro d ds t h' ⟨s, m, nm, x11, hd, hsm, rfl, rfl, hne, hor⟩
      cases m with
      | zero => simp at hd
      | succ m =>
        rw [List.range'_succ, List.map_cons] at hd
        obtain ⟨rfl, rfl⟩ := List.cons.inj hd
        refine ⟨trivial, [x0, x1, some (.str abc), x3, x4, some (.ref M), some (.int zk), x7, x8, x9, some (.str nm), some (.int (s : Int)), x12], rfl, ?_⟩
        have i1 := in_ref (n := false) (x := nm) hM
        have tt : tCmp (mOp (dIn false) (mVar 10) (mVar 5)) c [x0, x1, some (.str abc), x3, x4, some (.ref M), some (.int zk), x7, x8, x9, some (.str nm), some (.int (s : Int)), x12] h' = .ok (decide (nm ∈ G)) h' := by
          simp only [tCmp_ev, mOp_ev, mVar_ev, List.getElem?_cons_succ, List.getElem?_cons_zero, bind_ok, i1, Bool.false_bne, dBl_ev]
        unfold nmIn
        rw [sIf_ev, tt, toS_ok]
        by_cases q : nm ∈ G
        · rw [decide_eq_true q, if_pos rfl]
          have a1 := abc_at (d := (s : Int)) (by omega) (by omega) h'
          have a2 := abc_at (d := zk) (by omega) (by omega) h'
          have e1 : (s : Int).toNat = s := by omega
          have e2 : zk.toNat = k := by omega
          rw [e1] at a1
          rw [e2] at a2
          have b1 := add_str (m := false) (a := [97 + s]) (b := [97 + k]) (by simp) (by simp) h'
          have r : sSet 10 (mOp (dAdd false) (mOp dIx (mVar 2) (mVar 11)) (mOp dIx (mVar 2) (mVar 6))) c [x0, x1, some (.str abc), x3, x4, some (.ref M), some (.int zk), x7, x8, x9, some (.str nm), some (.int (s : Int)), x12] h' = .nx [x0, x1, some (.str abc), x3, x4, some (.ref M), some (.int zk), x7, x8, x9, some (.str (cnd k s)), some (.int (s : Int)), x12] h' := by
            rw [sSet_ev]
            simp only [mOp_ev, mVar_ev, List.getElem?_cons_succ, List.getElem?_cons_zero, bind_ok, a1, a2, b1, toS_ok]
            rfl
          rw [r]
          refine .nx ⟨s + 1, m, cnd k s, _, rfl, by omega, rfl, rfl, by simp [cnd], .inr ⟨fun j hj => ?_, fun j hj => by rw [show j = s by omega]⟩⟩
          rcases hor with h | ⟨h1, h2⟩
          · exact absurd q h
          · rcases Nat.lt_or_ge (j + 1) s with l | l
            · exact h1 j l
            · rw [← h2 j (by omega)]; exact q
        · rw [decide_eq_false q, if_neg (by decide)]
          exact .nx ⟨s + 1, m, nm, _, rfl, by omega, rfl, rfl, hne, .inl q⟩)
    (by
      rintro t h' ⟨s, m, nm, x11, hd, hsm, rfl, rfl, hne, hor⟩
      cases m with
      | succ m => simp [List.range'_succ] at hd
      | zero =>
        refine ⟨trivial, nm, x11, rfl, hne, ?_⟩
        rcases hor with h | ⟨h1, _⟩
        · exact h
        · exact (cnd_few hG fun j hj => h1 j (by omega)).elim)
    ⟨0, 26, name, x11, by rw [rngD_eq, List.range_eq_range'], rfl, rfl, rfl, hn, .inr ⟨fun j hj => by omega, fun j hj => by omega⟩⟩
  obtain ⟨nm, y11, e, h1, h2⟩ := key
  exact ⟨nm, y11, h1, h2, e⟩
end K04

namespace K04
open PySem L2 Ev
theorem strs_map (chs : List Nat) : strsOf (chs.map fun ch => D.str [ch]) = some (chs.map fun ch => [ch]) := by
  induction chs with
  | nil => rfl
  | cons a l ih => simp [strsOf, ih]
theorem join_map : ∀ chs : List Nat, joinD [] (chs.map fun ch => [ch]) = chs
  | [] => rfl
  | [a] => rfl
  | a :: b :: l => by
    have := join_map (b :: l)
    simp only [List.map_cons, joinD, List.nil_append] at this ⊢
    rw [this]
    rfl
theorem sum_map (chs : List Nat) : ((chs.map fun ch => [ch]).map List.length).sum = chs.length := by
  induction chs with
  | nil => rfl
  | cons a l ih =>
    rw [List.map_cons, List.map_cons, List.sum_cons, ih]
    simp
    omega
theorem join_letters (chs : List Nat) (h : Hd) (hl : chs.length ≤ 1000) : fJoin (.str []) [.lst (chs.map fun ch => D.str [ch])] h = .ok (.str chs) h := by
  have hz : ((chs.map fun ch => [ch]).map List.length).sum + (chs.map fun ch => [ch]).length * ([] : List Nat).length ≤ 1000000 := by
    rw [sum_map]
    simp
    omega
  simp only [fJoin, D.see, strs_map, if_pos hz, join_map]
abbrev nmSz : M := (mOp (dAdd false) (mOp (dAdd false) (mLst false (aCons (mC (.int 4)) (aCons (mC (.int 12)) aNil))) (mOp (dMul false) (mLst false (aCons (mC (.int 26)) aNil)) (mC (.int 12)))) (mOp (dMul false) (mLst false (aCons (mC (.int 12)) (aCons (mC (.int 26)) (aCons (mC (.int 12)) aNil)))) (mVar 1)))
theorem nm_sz {c : Calls} {t : Tau} {h : Hd} {N : Nat} {z : Int} (hz : z = N) (hN : N ≤ 100) (t1 : t[1]? = some (some (.int z))) : nmSz c t h = .ok (.lst ((ssN N).map D.int)) h := by
  have m1 := mul_lst (xs := [.int 26]) (z := 12) (N := 12) rfl (by omega) (by simp) h
  have m2 := mul_lst (xs := [.int 12, .int 26, .int 12]) (z := z) (N := N) hz (by omega) (by simp) h
  have l1 : (List.replicate 12 [D.int 26]).flatten = (List.replicate 12 (26 : Int)).map D.int := rfl
  have l2 : (List.replicate N [D.int 12, .int 26, .int 12]).flatten = ((List.replicate N ([12, 26, 12] : List Int)).flatten).map D.int := by
    rw [List.map_flatten, List.map_replicate]
    rfl
  rw [l1] at m1
  rw [l2] at m2
  have a1 := add_lst (xs := [.int 4, .int 12]) (ys := (List.replicate 12 (26 : Int)).map D.int) (by simp) (by simp) h
  have a2 := add_lst (xs := [.int 4, .int 12] ++ (List.replicate 12 (26 : Int)).map D.int) (ys := ((List.replicate N ([12, 26, 12] : List Int)).flatten).map D.int) (by simp) (by simp [List.length_flatten]; omega) h
  unfold nmSz
  have f1 : fresh false [D.int 4, .int 12] h = .ok (.lst [D.int 4, .int 12]) h := freshF _ (by simp)
  have f2 : fresh false [D.int 26] h = .ok (.lst [D.int 26]) h := freshF _ (by simp)
  have f3 : fresh false [D.int 12, .int 26, .int 12] h = .ok (.lst [D.int 12, .int 26, .int 12]) h := freshF _ (by simp)
  simp only [mOp_ev, mLst_ev, aCons_ev, mC_ev, bind_ok, aNil_ev, f1, f2, f3, m1, a1, mVar_ev, t1, m2, a2]
  rw [List.map_append, List.map_append]
  rfl
theorem Fit.mem {ds ss : List Int} (h : Fit ds ss) {lo hi : Nat} {b : Int} (hb : ∀ i, lo ≤ i → i < hi → ss[i]? = some b) (hh : hi ≤ ss.length) : ∀ x ∈ (ds.drop lo).take (hi - lo), 0 ≤ x ∧ x < b := by
  intro x hx
  obtain ⟨i, hi', e⟩ := List.mem_iff_getElem.mp hx
  rw [List.length_take, List.length_drop] at hi'
  rw [List.getElem_take, List.getElem_drop] at e
  obtain ⟨d, ed, d0, d1⟩ := h.get (hb (lo + i) (by omega) (by omega))
  have : ds[lo + i]? = some x := by
    rw [List.getElem?_eq_getElem (by omega), e]
  rw [this] at ed
  injection ed with ed
  subst ed
  exact ⟨d0, d1⟩
noncomputable abbrev nmStem : M := mMt kJoin (mC (.str [])) (aCons (mComp false (iVal (mCut false (mVar 3) (pYes (mC (.int 2))) (pYes (mC (.int 14))))) (.nm 12) [12] tYesM (mOp dIx (mVar 2) (mVar 12))) aNil)
theorem nm_stem {c : Calls} {t : Tau} {H : Hd} {L N : Nat} {ds : List Int} (tl : t.length = 13) (t2 : t[2]? = some (some (.str abc))) (t3 : t[3]? = some (some (.ref L))) (hL : H[L]? = some (.lst (ds.map D.int))) (fit : Fit ds (ssN N)) (hN : N ≤ 100) :
    ∃ stem : List Nat, stem ≠ [] ∧ stem.length ≤ 12 ∧ nmStem c t H = .ok (.str stem) H := by
  have fl := fit.len
  have sl : (ssN N).length = 14 + 3 * N := by
    simp [List.length_flatten]; omega
  obtain ⟨cs, hcs⟩ : ∃ cs, cs = (ds.drop 2).take 12 := ⟨_, rfl⟩
  have cl : cs.length = 12 := by rw [hcs, List.length_take, List.length_drop]; omega
  have cb : ∀ x ∈ cs, 0 ≤ x ∧ x < 26 := by
    rw [hcs]
    exact fit.mem (lo := 2) (hi := 14) (fun i h1 h2 => ssN_stem h1 h2) (by omega)
  have ecut : dCut false (.ref L) (some 2) (some 14) H = .ok (.lst (cs.map D.int)) H := by
    have se : D.see H (.ref L) = .lst (ds.map D.int) := by simp [D.see, hL]
    unfold dCut
    simp only [se]
    rw [cutL_map]
    have : cutL ds (some 2) (some 14) = cs := by
      have e1 : cutI ds.length 0 (some 2) = 2 := by
        show min (2 : Int).toNat ds.length = 2
        have : (2 : Int).toNat = 2 := rfl
        omega
      have e2 : cutI ds.length ds.length (some 14) = 14 := by
        show min (14 : Int).toNat ds.length = 14
        have : (14 : Int).toNat = 14 := rfl
        omega
      unfold cutL
      rw [e1, e2, hcs]
    rw [this, freshF _ (by rw [List.length_map]; omega)]
  refine ⟨cs.map fun x => 97 + x.toNat, ?_, by rw [List.length_map]; omega, ?_⟩
  · intro e
    have := congrArg List.length e
    rw [List.length_map] at this
    simp at this
    rw [this] at cl
    simp at cl
  · have em : mComp false (iVal (mCut false (mVar 3) (pYes (mC (.int 2))) (pYes (mC (.int 14))))) (.nm 12) [12] tYesM (mOp dIx (mVar 2) (mVar 12)) c t H = .ok (.lst ((cs.map fun x => 97 + x.toNat).map fun ch => .str [ch])) H := by
      have ei : iVal (mCut false (mVar 3) (pYes (mC (.int 2))) (pYes (mC (.int 14)))) c t H = .ok ⟨cs.map D.int, none⟩ H := by
        simp only [iVal_ev, mCut_ev, mVar_ev, t3, bind_ok, pYes_ev, mC_ev, dPart_ev, ecut]
        simp [dIter]
      unfold mComp
      rw [ei, bind_ok, comp_pure (s := ⟨cs.map D.int, none⟩) trivial (f := fun d => match d with | .int n => some (.str [97 + n.toNat]) | _ => none) (cs.map D.int) (by
        intro d hd
        obtain ⟨x, hx, rfl⟩ := List.mem_map.mp hd
        have v12 : ((wipeT t [12]).set 12 (some (D.int x)))[12]? = some (some (.int x)) := List.getElem?_set_self (by simp [wipeT, tl])
        have v2 : ((wipeT t [12]).set 12 (some (D.int x)))[2]? = some (some (.str abc)) := by simp [wipeT, List.getElem?_set_ne, t2]
        have aa := abc_at (cb x hx).1 (cb x hx).2 H
        unfold stepC asg
        simp only [tYes_ev, bind_ok, if_true, mOp_ev, mVar_ev, v12, v2, aa]
        rfl), bind_ok]
      have : (cs.map D.int).filterMap (fun d => match d with | .int n => some (D.str [97 + n.toNat]) | _ => none) = (cs.map fun x => 97 + x.toNat).map fun ch => .str [ch] := by
        rw [List.filterMap_map, List.map_map]
        have : (fun (x : Int) => (some (D.str [97 + x.toNat]) : Option Ev.D)) = some ∘ (fun x : Int => D.str [97 + x.toNat]) := rfl
        show cs.filterMap (fun (x : Int) => (some (D.str [97 + x.toNat]) : Option Ev.D)) = _
        rw [this, List.filterMap_eq_map]
        rfl
      rw [this]
      exact freshF _ (by simp; omega)
    unfold nmStem
    rw [mMt_ev, mC_ev, bind_ok]
    have e1 : kindOf (.str []) H = some .str := rfl
    have e2 : kJoin .str = some fJoin := rfl
    simp only [e1, e2, aCons_ev, em, bind_ok, aNil_ev]
    exact join_letters _ H (by rw [List.length_map]; omega)
theorem c_names {n : Nat} (hn : 2 ≤ n) (cell : Int) {N : Nat} (hN : N ≤ 16) {z : Int} (hz : z = N) (h : Hd) :
    ∃ (names : Word) (l : Hd) (p : Nat), callN T n 16 [.int cell, .int z] h = .ok (.ref p) (h ++ l) ∧ (h ++ l)[p]? = some (.lst (names.map D.str)) ∧ names.length = N ∧ names.Nodup ∧ ∀ x ∈ names, x ≠ [] := by
  obtain ⟨m, rfl⟩ := lvl hn
  rw [call_at (F := ⟨2, 13, b__law_names⟩) rfl]
  obtain ⟨ds, e15, fit⟩ := c_digits (n := m + 1) (by omega) cell (ssN N) (ssN_ok (by omega)).1 (ssN_ok (by omega)).2 h
  generalize callN T (m + 1) = c at e15
  have ea : ([D.int cell, .int z].map some ++ List.replicate (13 - 2) (none : Option Ev.D)) = [some (.int cell), some (.int z), none, none, none, none, none, none, none, none, none, none, none] := rfl
  rw [runFn_at (np := 2) (nn := 13) rfl ea]
  have hb : b__law_names = sSeq (sSet 2 (mC (.str abc))) (sSeq (sSet 3 (mCall 15 (aCons (mVar 0) (aCons nmSz aNil)))) (sSeq (sSet 4 nmStem) (sSeq (sSet 5 (mLst true aNil)) (sSeq (sFor (iRng1 (mVar 1)) (.nm 6) (nmHead (sSeq (sFor (iRng1 (mC (.int 26))) (.nm 11) nmIn) (sExpr (mMt kAppend (mVar 5) (aCons (mVar 10) aNil)))))) (sRet (mVar 5)))))) := rfl
  have s2 : sSet 2 (mC (.str abc)) c [some (.int cell), some (.int z), none, none, none, none, none, none, none, none, none, none, none] h = .nx [some (.int cell), some (.int z), some (.str abc), none, none, none, none, none, none, none, none, none, none] h := rfl
  have s3 : sSet 3 (mCall 15 (aCons (mVar 0) (aCons nmSz aNil))) c [some (.int cell), some (.int z), some (.str abc), none, none, none, none, none, none, none, none, none, none] h = .nx [some (.int cell), some (.int z), some (.str abc), some (.ref h.length), none, none, none, none, none, none, none, none, none] (h ++ [.lst (ds.map D.int)]) := by
    have e := nm_sz (c := c) (t := [some (.int cell), some (.int z), some (.str abc), none, none, none, none, none, none, none, none, none, none]) (h := h) hz (by omega) rfl
    rw [sSet_ev, mCall_ev, aCons_ev]
    simp only [mVar_ev, List.getElem?_cons_zero, bind_ok, aCons_ev, e, aNil_ev, e15, toS_ok]
    rfl
  obtain ⟨stem, hs0, hs12, es⟩ := nm_stem (c := c) (t := [some (.int cell), some (.int z), some (.str abc), some (.ref h.length), none, none, none, none, none, none, none, none, none]) (H := h ++ [.lst (ds.map D.int)]) (L := h.length) rfl rfl rfl (get_last h _) fit (by omega)
  have s4 : sSet 4 nmStem c [some (.int cell), some (.int z), some (.str abc), some (.ref h.length), none, none, none, none, none, none, none, none, none] (h ++ [.lst (ds.map D.int)]) = .nx [some (.int cell), some (.int z), some (.str abc), some (.ref h.length), some (.str stem), none, none, none, none, none, none, none, none] (h ++ [.lst (ds.map D.int)]) := by
    rw [sSet_ev, es, toS_ok]; rfl
  have s5 : sSet 5 (mLst true aNil) c [some (.int cell), some (.int z), some (.str abc), some (.ref h.length), some (.str stem), none, none, none, none, none, none, none, none] (h ++ [.lst (ds.map D.int)]) = .nx [some (.int cell), some (.int z), some (.str abc), some (.ref h.length), some (.str stem), some (.ref (h.length + 1)), none, none, none, none, none, none, none] (h ++ [.lst (ds.map D.int), .lst []]) := by
    simp
  have ei : iRng1 (mVar 1) c [some (.int cell), some (.int z), some (.str abc), some (.ref h.length), some (.str stem), some (.ref (h.length + 1)), none, none, none, none, none, none, none] (h ++ [.lst (ds.map D.int), .lst []]) = .ok ⟨rngD 0 N, none⟩ (h ++ [.lst (ds.map D.int), .lst []]) := by
    simp only [iRng1_ev, mVar_ev, List.getElem?_cons_succ, List.getElem?_cons_zero, bind_ok]
    rw [dRng1_ok _ (by omega) (by omega), show z.toNat = N by omega]
  obtain ⟨names, t', e, v5, hlen, hnd, hne⟩ := sFor_gen (b := nmHead (sSeq (sFor (iRng1 (mC (.int 26))) (.nm 11) nmIn) (sExpr (mMt kAppend (mVar 5) (aCons (mVar 10) aNil))))) (g := .nm 6) (I := fun xs t h' => ∃ (s m : Nat) (G : Word) (x6 x7 x8 x9 x10 x11 : Option Ev.D), xs = (List.range' s m).map (fun (k : Nat) => D.int (k : Int)) ∧ s + m = N ∧ t = [some (.int cell), some (.int z), some (.str abc), some (.ref h.length), some (.str stem), some (.ref (h.length + 1)), x6, x7, x8, x9, x10, x11, none] ∧ h' = h ++ [.lst (ds.map D.int), .lst (G.map D.str)] ∧ G.length = s ∧ G.Nodup ∧ ∀ x ∈ G, x ≠ [])
    (O := fun y => ∃ (G : Word) (t : Tau), y = .nx t (h ++ [.lst (ds.map D.int), .lst (G.map D.str)]) ∧ t[5]? = some (some (.ref (h.length + 1))) ∧ G.length = N ∧ G.Nodup ∧ ∀ x ∈ G, x ≠ []) ei
    (by
      rintro d xs t h' ⟨s, m, G, x6, x7, x8, x9, x10, x11, hd, hsm, rfl, rfl, gl, gn, ge⟩
      cases m with
      | zero => simp at hd
      | succ m =>
        rw [List.range'_succ, List.map_cons] at hd
        obtain ⟨rfl, rfl⟩ := List.cons.inj hd
        refine ⟨trivial, [some (.int cell), some (.int z), some (.str abc), some (.ref h.length), some (.str stem), some (.ref (h.length + 1)), some (.int (s : Int)), x7, x8, x9, x10, x11, none], rfl, ?_⟩
        obtain ⟨y7, y8, y9, nm, hnm, eR⟩ := nm_head (c := c) (H := h ++ [.lst (ds.map D.int), .lst (G.map D.str)]) (L := h.length) (k := s) (zk := (s : Int)) (x0 := some (.int cell)) (x1 := some (.int z)) (x5 := some (.ref (h.length + 1))) (x7 := x7) (x8 := x8) (x9 := x9) (x10 := x10) (x11 := x11) (by simp) fit (by omega) hs0 hs12 rfl
        obtain ⟨nm', y11, hn1, hn2, e11⟩ := nm_in (c := c) (H := h ++ [.lst (ds.map D.int), .lst (G.map D.str)]) (M := h.length + 1) (G := G) (k := s) (zk := (s : Int)) (name := nm) (x0 := some (.int cell)) (x1 := some (.int z)) (x3 := some (.ref h.length)) (x4 := some (.str stem)) (x7 := y7) (x8 := y8) (x9 := y9) (x11 := x11) (x12 := none) (get2 h _ _) (by omega) rfl hnm (by omega)
        have ap := append_at (c := c) (t := [some (.int cell), some (.int z), some (.str abc), some (.ref h.length), some (.str stem), some (.ref (h.length + 1)), some (.int (s : Int)), y7, y8, y9, some (.str nm'), y11, none]) (h := h ++ [.lst (ds.map D.int), .lst (G.map D.str)]) (i := 5) (L := h.length + 1) (m := mVar 10) (d := .str nm') (xs := G.map D.str) (ys := G.map D.str) rfl (get2 h _ _) rfl (get2 h _ _) (by rw [List.length_map]; omega)
        rw [set2] at ap
        rw [eR, sSeq_ev, e11, seq_nx, ap]
        refine .nx ⟨s + 1, m, G ++ [nm'], _, _, _, _, _, _, rfl, by omega, rfl, by rw [List.map_append, List.map_singleton], by rw [List.length_append, gl]; rfl, ?_, fun x hx => ?_⟩
        · exact List.nodup_append.mpr ⟨gn, by simp, fun x hx y hy => by rw [List.mem_singleton.mp hy]; rintro rfl; exact hn2 hx⟩
        · rcases List.mem_append.mp hx with hx | hx
          · exact ge x hx
          · rw [List.mem_singleton.mp hx]; exact hn1)
    (by
      rintro t h' ⟨s, m, G, x6, x7, x8, x9, x10, x11, hd, hsm, rfl, rfl, gl, gn, ge⟩
      cases m with
      | succ m => simp [List.range'_succ] at hd
      | zero => exact ⟨trivial, G, _, rfl, rfl, by omega, gn, ge⟩)
    ⟨0, N, [], none, none, none, none, none, none, by rw [rngD_eq, List.range_eq_range'], by omega, rfl, rfl, rfl, by simp, fun x hx => by cases hx⟩
  refine ⟨names, [.lst (ds.map D.int), .lst (names.map D.str)], h.length + 1, ?_, get2 h _ _, hlen, hnd, hne⟩
  rw [hb, sSeq_ev, s2, seq_nx, sSeq_ev, s3, seq_nx, sSeq_ev, s4, seq_nx, sSeq_ev, s5, seq_nx, sSeq_ev, e, seq_nx, sRet_ev]
  simp only [mVar_ev, v5, toS_ok, fin_rt]
  unfold fin1
  rw [if_neg (fun z => by have := z.1; rw [lo_ref] at this; omega)]
end K04

namespace K04
open PySem L2 Ev
/-! ### the flow: the parts -/
abbrev p13 : List Int := [16, 8, 8, 21, 4, 3, 3, 3, 3, 10, 10, 10, 10]
abbrev ssF : List Int := [8, 17, 4] ++ List.replicate 8 3 ++ (List.replicate 16 p13).flatten
theorem ssF_ok : (∀ s ∈ ssF, 0 < s ∧ s < 1000000) ∧ ssF.length ≤ 500 := by decide
theorem Fit.drop {ds ss : List Int} (h : Fit ds ss) : ∀ n, Fit (ds.drop n) (ss.drop n) := by
  induction h with
  | nil => intro n; simp; exact .nil
  | cons a b h ih =>
    intro n
    cases n with
    | zero => exact .cons a b h
    | succ n => exact ih n
theorem Fit.take {ds ss : List Int} (h : Fit ds ss) : ∀ n, Fit (ds.take n) (ss.take n) := by
  induction h with
  | nil => intro n; simp; exact .nil
  | cons a b h ih =>
    intro n
    cases n with
    | zero => exact .nil
    | succ n => exact .cons a b (ih n)
theorem rep_cut {α : Type} (xs : List α) : ∀ (n k : Nat), k < n → (((List.replicate n xs).flatten).drop (k * xs.length)).take xs.length = xs
  | 0, _, h => absurd h (Nat.not_lt_zero _)
  | n + 1, 0, _ => by
    rw [List.replicate_succ, List.flatten_cons, Nat.zero_mul, List.drop_zero, List.take_left']
    rfl
  | n + 1, k + 1, h => by
    rw [List.replicate_succ, List.flatten_cons, Nat.succ_mul, Nat.add_comm, ← List.drop_drop, List.drop_left']
    · exact rep_cut xs n k (by omega)
    · rfl
theorem ssF_part {k : Nat} (hk : k < 16) : (ssF.drop (11 + 13 * k)).take 13 = p13 := by
  have r := rep_cut p13 16 k hk
  have e : ssF.drop (11 + 13 * k) = ((List.replicate 16 p13).flatten).drop (k * p13.length) := by
    rw [← List.drop_drop]
    have : ssF.drop 11 = (List.replicate 16 p13).flatten := rfl
    rw [this]
    congr 1
    show 13 * k = k * 13
    omega
  rw [e]
  exact r
theorem ix_lst {xs : List Ev.D} {k : Nat} {x : Ev.D} {z : Int} (hz : z = k) (h : Hd) (e : xs[k]? = some x) : dIx (.lst xs) (.int z) h = .ok x h := by
  subst hz
  have hk := (List.getElem?_eq_some_iff.mp e).1
  rw [List.getElem?_eq_getElem hk] at e
  cases e
  simp [dIx, dIxS, D.dict?, D.see, ixI, hk]
theorem ix_ints {xs : List Int} {k : Nat} {d z : Int} (hz : z = k) (h : Hd) (e : xs[k]? = some d) : dIx (.lst (xs.map D.int)) (.int z) h = .ok (.int d) h :=
  ix_lst hz h (by rw [List.getElem?_map, e]; rfl)
theorem ix_strs {xs : Word} {k : Nat} {d : List Nat} {z : Int} (hz : z = k) (h : Hd) (e : xs[k]? = some d) : dIx (.lst (xs.map D.str)) (.int z) h = .ok (.str d) h :=
  ix_lst hz h (by rw [List.getElem?_map, e]; rfl)
section
variable {c : Calls} {t : Tau} {H : Hd}
theorem fl_part {L k : Nat} {ds : List Int} {zk : Int} (t5 : t[5]? = some (some (.ref L))) (t9 : t[9]? = some (some (.int zk))) (hL : H[L]? = some (.lst (ds.map D.int))) (fit : Fit ds ssF) (hk : k < 16) (hzk : zk = k) :
    ∃ part, Fit part p13 ∧ mCut false (mVar 5) (pYes (mOp (dAdd false) (mC (.int 11)) (mOp (dMul false) (mC (.int 13)) (mVar 9)))) (pYes (mOp (dAdd false) (mC (.int 24)) (mOp (dMul false) (mC (.int 13)) (mVar 9)))) c t H = .ok (.lst (part.map D.int)) H := by
  have f := (fit.drop (11 + 13 * k)).take 13
  rw [ssF_part hk] at f
  refine ⟨_, f, ?_⟩
  have dl : ds.length = 219 := by rw [fit.len]; rfl
  have ml : dMul false (.int 13) (.int zk) H = .ok (.int (13 * zk)) H := dMul_l (by decide) (by decide)
  have a1 : dAdd false (.int 11) (.int (13 * zk)) H = .ok (.int (11 + 13 * zk)) H := rfl
  have a2 : dAdd false (.int 24) (.int (13 * zk)) H = .ok (.int (24 + 13 * zk)) H := rfl
  simp only [mCut_ev, mVar_ev, t5, bind_ok, pYes_ev, mOp_ev, mC_ev, t9, ml, a1, a2, dPart_ev]
  have se : D.see H (.ref L) = .lst (ds.map D.int) := by simp [D.see, hL]
  unfold dCut
  simp only [se]
  have e1 : cutI (ds.map D.int).length 0 (some (11 + 13 * zk)) = 11 + 13 * k := by
    show (if 11 + 13 * zk < 0 then _ else min (11 + 13 * zk).toNat (ds.map D.int).length) = _
    rw [if_neg (by omega), List.length_map]
    omega
  have e2 : cutI (ds.map D.int).length (ds.map D.int).length (some (24 + 13 * zk)) = 24 + 13 * k := by
    show (if 24 + 13 * zk < 0 then _ else min (24 + 13 * zk).toNat (ds.map D.int).length) = _
    rw [if_neg (by omega), List.length_map]
    omega
  have e3 : cutL (ds.map D.int) (some (11 + 13 * zk)) (some (24 + 13 * zk)) = ((ds.drop (11 + 13 * k)).take 13).map D.int := by
    unfold cutL
    rw [e1, e2, show 24 + 13 * k - (11 + 13 * k) = 13 by omega, List.map_take, List.map_drop]
  rw [e3, freshF _ (by rw [List.length_map, List.length_take]; omega)]
theorem fl_pick {i : Nat} {j : Nat} {b : Int} {part : List Int} {xs : Word} (ti : t[i]? = some (some (.lst (xs.map D.str)))) (t10 : t[10]? = some (some (.lst (part.map D.int)))) (fit : Fit part p13) (hj : p13[j]? = some b) (hx : xs ≠ []) :
    ∃ x ∈ xs, mOp dIx (mVar i) (mOp dMod (mB gInt (aCons (mOp dIx (mVar 10) (mC (.int (j : Int)))) aNil)) (mB gLen (aCons (mVar i) aNil))) c t H = .ok (.str x) H := by
  obtain ⟨d, ed, d0, d1⟩ := fit.get hj
  have i1 := ix_ints (z := (j : Int)) rfl H ed
  have gl : gLen [.lst (xs.map D.str)] H = .ok (.int (xs.length : Nat)) H := by simp [gLen, D.dict?, D.see]
  obtain ⟨n, hn⟩ : ∃ n : Int, n = (xs.length : Nat) := ⟨_, rfl⟩
  have hpos : 0 < n := by
    have := List.length_pos_iff.mpr hx
    omega
  rw [← hn] at gl
  have dm : dMod (.int d) (.int n) H = .ok (.int (d % n)) H := if_pos hpos
  have m0 := Int.emod_nonneg d (show n ≠ 0 by omega)
  have m1 := Int.emod_lt_of_pos d hpos
  have hk : (d % n).toNat < xs.length := by omega
  have i2 := ix_strs (xs := xs) (k := (d % n).toNat) (z := d % n) (by omega) H (List.getElem?_eq_getElem hk)
  refine ⟨xs[(d % n).toNat], List.getElem_mem hk, ?_⟩
  have gi : gInt [.int d] H = .ok (.int d) H := rfl
  simp only [mOp_ev, mVar_ev, ti, t10, bind_ok, mB_ev, aCons_ev, mC_ev, i1, aNil_ev, gi, gl, dm, i2]
theorem fl_name {L q : Nat} {ds part : List Int} {nm : Word} (t2 : t[2]? = some (some (.ref q))) (t5 : t[5]? = some (some (.ref L))) (t10 : t[10]? = some (some (.lst (part.map D.int)))) (hL : H[L]? = some (.lst (ds.map D.int))) (hq : H[q]? = some (.lst (nm.map D.str))) (hn : nm.length = 16) (fit : Fit ds ssF) (fp : Fit part p13) :
    ∃ x, mOp dIx (mVar 2) (mOp dMod (mB gInt (aCons (mOp dIx (mVar 10) (mC (.int 0))) aNil)) (mOp dIx (mLst false (aCons (mC (.int 2)) (aCons (mC (.int 4)) (aCons (mC (.int 8)) (aCons (mC (.int 16)) aNil))))) (mOp dIx (mVar 5) (mC (.int 2))))) c t H = .ok (.str x) H := by
  obtain ⟨d, ed, d0, d1⟩ := fp.get (show p13[0]? = some 16 from rfl)
  obtain ⟨e, ee, e0, e1⟩ := fit.get (show ssF[2]? = some 4 from rfl)
  have i1 := ix_ints (z := 0) (k := 0) rfl H ed
  have i2 := row_ix hL (z := 2) (n := 2) rfl ee
  obtain ⟨b, eb, b0, b1⟩ : ∃ b : Int, ([2, 4, 8, 16] : List Int)[e.toNat]? = some b ∧ 0 < b ∧ b ≤ 16 := by
    have : e.toNat = 0 ∨ e.toNat = 1 ∨ e.toNat = 2 ∨ e.toNat = 3 := by omega
    rcases this with h | h | h | h <;> rw [h]
    · exact ⟨2, rfl, by decide, by decide⟩
    · exact ⟨4, rfl, by decide, by decide⟩
    · exact ⟨8, rfl, by decide, by decide⟩
    · exact ⟨16, rfl, by decide, by decide⟩
  have i3 : dIx (.lst [.int 2, .int 4, .int 8, .int 16]) (.int e) H = .ok (.int b) H := ix_ints (xs := [2, 4, 8, 16]) (k := e.toNat) (z := e) (by omega) H eb
  have f1 : fresh false [D.int 2, .int 4, .int 8, .int 16] H = .ok (.lst [.int 2, .int 4, .int 8, .int 16]) H := freshF _ (by simp)
  have dm : dMod (.int d) (.int b) H = .ok (.int (d % b)) H := if_pos b0
  have m0 := Int.emod_nonneg d (show b ≠ 0 by omega)
  have m1 := Int.emod_lt_of_pos d b0
  have hk : (d % b).toNat < nm.length := by omega
  have i4 : dIx (.ref q) (.int (d % b)) H = .ok (.str nm[(d % b).toNat]) H := by
    have := ix_ref (k := (d % b).toNat) hq (x := .str nm[(d % b).toNat]) (by rw [List.getElem?_map, List.getElem?_eq_getElem hk]; rfl)
    rw [show (((d % b).toNat : Nat) : Int) = d % b by omega] at this
    exact this
  refine ⟨nm[(d % b).toNat], ?_⟩
  have gi : gInt [.int d] H = .ok (.int d) H := rfl
  simp only [mOp_ev, mVar_ev, t2, t5, t10, bind_ok, mB_ev, aCons_ev, mC_ev, i1, aNil_ev, gi, mLst_ev, f1, i2, i3, dm, i4]
theorem fl_role {part : List Int} {rs : Word} (t3 : t[3]? = some (some (.lst (rs.map D.str)))) (t10 : t[10]? = some (some (.lst (part.map D.int)))) (hr : rs.length = 4) (fp : Fit part p13) :
    ∃ x, mOp dIx (mVar 3) (mOp dIx (mVar 10) (mC (.int 4))) c t H = .ok (.str x) H := by
  obtain ⟨d, ed, d0, d1⟩ := fp.get (show p13[4]? = some 4 from rfl)
  have i1 := ix_ints (z := 4) (k := 4) rfl H ed
  have hk : d.toNat < rs.length := by omega
  have i2 := ix_strs (xs := rs) (k := d.toNat) (z := d) (by omega) H (List.getElem?_eq_getElem hk)
  exact ⟨rs[d.toNat], by simp only [mOp_ev, mVar_ev, t3, t10, bind_ok, mC_ev, i1, i2]⟩
abbrev ndK : MB := (tCmp (mOp (dEq false) (mOp dIx (mVar 10) (mOp (dAdd false) (mC (.int 5)) (mVar 16))) (mC (.int 1))))
abbrev ndM : M := (mTup (aCons (mOp dIx (mVar 4) (mVar 16)) (aCons (mOp dIx (mVar 10) (mOp (dAdd false) (mC (.int 9)) (mVar 16))) aNil)))
theorem fl_needs {part : List Int} {rel : Word} (tl : t.length = 18) (t4 : t[4]? = some (some (.lst (rel.map D.str)))) (t10 : t[10]? = some (some (.lst (part.map D.int)))) (hr : rel.length = 4) (fp : Fit part p13) :
    ∃ ns, mComp false (iRng1 (mC (.int 4))) (.nm 16) [16] ndK ndM c t H = .ok (.lst ns) H ∧ D.plainA ns = true ∧ ns.length ≤ 4 := by
  have ei : iRng1 (mC (.int 4)) c t H = .ok ⟨rngD 0 4, none⟩ H := by
    rw [iRng1_ev, mC_ev, bind_ok, dRng1_ok _ (by omega) (by omega)]
    rfl
  obtain ⟨xs, h', e, hI⟩ := compL_gen (s := ⟨rngD 0 4, none⟩) (step := stepC c (wipeT t [16]) (.nm 16) ndK ndM) (I := fun ds os h => h = H ∧ D.plainA os = true ∧ os.length + ds.length ≤ 4 ∧ ∀ d ∈ ds, ∃ j : Nat, j < 4 ∧ d = .int (j : Int))
    (by
      rintro d ds os h ⟨rfl, po, lo, hd⟩
      obtain ⟨j, hj, rfl⟩ := hd d (List.mem_cons_self ..)
      have v16 : ((wipeT t [16]).set 16 (some (D.int (j : Int))))[16]? = some (some (.int (j : Int))) := List.getElem?_set_self (by simp [wipeT, tl])
      have v4 : ((wipeT t [16]).set 16 (some (D.int (j : Int))))[4]? = some (some (.lst (rel.map D.str))) := by simp [wipeT, List.getElem?_set_ne, t4]
      have v10 : ((wipeT t [16]).set 16 (some (D.int (j : Int))))[10]? = some (some (.lst (part.map D.int))) := by simp [wipeT, List.getElem?_set_ne, t10]
      obtain ⟨a, ea, _, _⟩ := fp.get (i := 5 + j) (s := p13[5 + j]'(by show _ < 13; omega)) (List.getElem?_eq_getElem _)
      obtain ⟨b, eb, _, _⟩ := fp.get (i := 9 + j) (s := p13[9 + j]'(by show _ < 13; omega)) (List.getElem?_eq_getElem _)
      have i1 := ix_ints (z := 5 + (j : Int)) (k := 5 + j) (by omega) h ea
      have i2 := ix_ints (z := 9 + (j : Int)) (k := 9 + j) (by omega) h eb
      have hk : j < rel.length := by omega
      have i3 := ix_strs (z := (j : Int)) (k := j) rfl h (List.getElem?_eq_getElem hk)
      have a1 : dAdd false (.int 5) (.int (j : Int)) h = .ok (.int (5 + (j : Int))) h := rfl
      have a2 : dAdd false (.int 9) (.int (j : Int)) h = .ok (.int (9 + (j : Int))) h := rfl
      have ek : ndK c ((wipeT t [16]).set 16 (some (D.int (j : Int)))) h = .ok (decide (a = 1)) h := by
        unfold ndK
        simp only [tCmp_ev, mOp_ev, mVar_ev, v10, v16, bind_ok, mC_ev, a1, i1, eq_i, dBl_ev]
      have em : ndM c ((wipeT t [16]).set 16 (some (D.int (j : Int)))) h = .ok (.tup [.str rel[j], .int b]) h := by
        unfold ndM
        simp only [mTup_ev, aCons_ev, mOp_ev, mVar_ev, v4, v10, v16, bind_ok, mC_ev, a2, i2, i3, aNil_ev]
        exact freshT_ev _ (by simp)
      refine ⟨trivial, if a = 1 then some (.tup [.str rel[j], .int b]) else none, h, ?_, rfl, ?_, ?_, fun d hd' => hd d (List.mem_cons_of_mem _ hd')⟩
      · unfold stepC asg
        simp only [ek, bind_ok]
        by_cases q : a = 1
        · simp only [q, decide_true, if_true, em]
          rfl
        · simp only [q, decide_false, if_false]
          rfl
      · by_cases q : a = 1
        · simp [q, plainA_ap, po, D.plainA, D.plain]
        · simp [q, po]
      · by_cases q : a = 1
        · simp [q] at lo ⊢; omega
        · simp [q] at lo ⊢; omega)
    (fun os h _ => trivial) (rngD 0 4) [] H ⟨rfl, rfl, by rw [rngD_eq]; simp, fun d hd => by
      rw [rngD_eq] at hd
      obtain ⟨j, hj, rfl⟩ := List.mem_map.mp hd
      exact ⟨j, List.mem_range.mp hj, rfl⟩⟩
  obtain ⟨rfl, p, l, _⟩ := hI
  refine ⟨xs, ?_, by simpa using p, by simpa using l⟩
  unfold mComp
  rw [ei, bind_ok, e, bind_ok]
  exact freshF _ (by simp at l; omega)
abbrev wy (w : Way) : Ev.D := .tup [.str w.n, .str w.s]
theorem has_ways (n s : List Nat) : ∀ ws : List Way, D.has (ws.map wy) (.tup [.str n, .str s]) = decide (∃ w ∈ ws, w.n = n ∧ w.s = s)
  | [] => by simp [D.has]
  | w :: ws => by
    have ih := has_ways n s ws
    have e : D.has ((w :: ws).map wy) (.tup [.str n, .str s]) = ((decide (w.n = n) && decide (w.s = s)) || D.has (ws.map wy) (.tup [.str n, .str s])) := by
      unfold D.has
      rw [List.map_cons, List.any_cons]
      congr 1
      rw [eqv_tup, eqvA_cons, eqvA_cons, eqvA_nil, eqv_str, eqv_str, beq_dec, beq_dec, Bool.and_true]
    rw [e, ih, Bool.eq_iff_iff]
    simp
theorem fl_in {M : Nat} {n s : List Nat} {ws : List Way} (tl : t.length = 18) (t8 : t[8]? = some (some (.ref M))) (t11 : t[11]? = some (some (.str n))) (t13 : t[13]? = some (some (.str s))) (hM : H[M]? = some (.lst (ws.map Way.D))) (hl : ws.length ≤ 100) :
    tCmp (mOp (dIn true) (mTup (aCons (mVar 11) (aCons (mVar 13) aNil))) (mComp false (iVal (mVar 8)) (.nm 17) [17] tYesM (mCut false (mVar 17) pNo (pYes (mC (.int 2)))))) c t H = .ok (!decide (∃ w ∈ ws, w.n = n ∧ w.s = s)) H := by
  have ei : iVal (mVar 8) c t H = .ok ⟨ws.map Way.D, some (M, ws.map Way.D)⟩ H := by
    simp only [iVal_ev, mVar_ev, t8, bind_ok, dIter, hM]
  have em : mComp false (iVal (mVar 8)) (.nm 17) [17] tYesM (mCut false (mVar 17) pNo (pYes (mC (.int 2)))) c t H = .ok (.lst (ws.map wy)) H := by
    unfold mComp
    rw [ei, bind_ok, comp_pure (s := ⟨ws.map Way.D, some (M, ws.map Way.D)⟩) hM (f := fun d => match d with | .tup (a :: b :: _) => some (.tup [a, b]) | _ => none) (ws.map Way.D) (by
      intro d hd
      obtain ⟨w, _, rfl⟩ := List.mem_map.mp hd
      have v17 : ((wipeT t [17]).set 17 (some w.D))[17]? = some (some w.D) := List.getElem?_set_self (by simp [wipeT, tl])
      unfold stepC asg
      simp only [tYes_ev, bind_ok, if_true, mCut_ev, mVar_ev, v17, pNo_ev, pYes_ev, mC_ev, dPart_ev]
      rfl), bind_ok]
    have : (ws.map Way.D).filterMap (fun d => match d with | .tup (a :: b :: _) => some (D.tup [a, b]) | _ => none) = ws.map wy := by
      rw [List.filterMap_map]
      have : ((fun d => match d with | .tup (a :: b :: _) => some (D.tup [a, b]) | _ => none) ∘ Way.D) = some ∘ wy := rfl
      rw [this, List.filterMap_eq_map]
    rw [this]
    exact freshF _ (by rw [List.length_map]; omega)
  have pw : ∀ l : List Way, D.plainA (l.map wy) = true := fun l => by
    induction l with
    | nil => rfl
    | cons a l ih => simp [D.plainA, D.plain, ih]
  have hc : cmpOk (.tup [.str n, .str s]) (.lst (ws.map wy)) = true := by
    simp [cmpOk, near, D.plain, D.plainA, pw, D.dep, D.depA]
  have e1 : D.dict? H (.lst (ws.map wy)) = none := rfl
  have e2 : dIn true (.tup [.str n, .str s]) (.lst (ws.map wy)) H = .ok (.bl (!decide (∃ w ∈ ws, w.n = n ∧ w.s = s))) H := by
    unfold dIn
    simp only [e1]
    unfold dInS
    simp only [D.see]
    rw [if_pos hc, has_ways]
    simp
  have ft : freshT [D.str n, .str s] H = .ok (.tup [.str n, .str s]) H := freshT_ev _ (by simp)
  rw [tCmp_ev, mOp_ev, mTup_ev]
  simp only [aCons_ev, mVar_ev, t11, t13, bind_ok, aNil_ev, ft, em, e2, dBl_ev]
end
end K04

namespace K04
open PySem L2 Ev
/-! ### the flow: the walk -/
abbrev flPart : M := (mCut false (mVar 5) (pYes (mOp (dAdd false) (mC (.int 11)) (mOp (dMul false) (mC (.int 13)) (mVar 9)))) (pYes (mOp (dAdd false) (mC (.int 24)) (mOp (dMul false) (mC (.int 13)) (mVar 9)))))
abbrev flName : M := (mOp dIx (mVar 2) (mOp dMod (mB gInt (aCons (mOp dIx (mVar 10) (mC (.int 0))) aNil)) (mOp dIx (mLst false (aCons (mC (.int 2)) (aCons (mC (.int 4)) (aCons (mC (.int 8)) (aCons (mC (.int 16)) aNil))))) (mOp dIx (mVar 5) (mC (.int 2))))))
abbrev flRole : M := (mOp dIx (mVar 3) (mOp dIx (mVar 10) (mC (.int 4))))
abbrev flWay : M := (mTup (aCons (mVar 11) (aCons (mVar 13) (aCons (mVar 14) (aCons (mOp dIx (mVar 10) (mC (.int 3))) (aCons flRole (aCons (mB gTuple (aCons (mVar 12) aNil)) aNil)))))))
noncomputable abbrev flIn : MB := (tCmp (mOp (dIn true) (mTup (aCons (mVar 11) (aCons (mVar 13) aNil))) (mComp false (iVal (mVar 8)) (.nm 17) [17] tYesM (mCut false (mVar 17) pNo (pYes (mC (.int 2)))))))
noncomputable abbrev flAdd : MS := (sSeq (sSet 13 (mOp dIx (mVar 7) (mOp dMod (mB gInt (aCons (mOp dIx (mVar 10) (mC (.int 1))) aNil)) (mB gLen (aCons (mVar 7) aNil)))))
  (sSeq (sSet 14 (mOp dIx (mVar 1) (mOp dMod (mB gInt (aCons (mOp dIx (mVar 10) (mC (.int 2))) aNil)) (mB gLen (aCons (mVar 1) aNil)))))
  (sIf flIn
  (sExpr (mMt kAppend (mVar 8) (aCons flWay aNil)))
  sNil)))
noncomputable abbrev flBody : MS := (sSeq (sSet 10 flPart)
  (sSeq (sSet 11 flName)
  (sSeq (sSet 12 (mComp false (iRng1 (mC (.int 4))) (.nm 16) [16] ndK ndM))
  (sIf (tCmp (mOp dGt (mB gLen (aCons (mVar 7) aNil)) (mC (.int 0))))
  flAdd
  sNil))))
/-- what holds of the ways made so far -/
structure Made (st fr : Word) (ws : List Way) : Prop where
  src : ∀ w ∈ ws, w.s ∈ fr
  tgt : ∀ w ∈ ws, w.t ∈ st
  pl : ∀ w ∈ ws, D.plainA w.ns = true
  day : ∀ w ∈ ws, 0 ≤ w.d ∧ w.d ≤ 20
  uq : ∀ w ∈ ws, ∀ w' ∈ ws, w.n = w'.n → w.s = w'.s → w = w'
theorem Made.add {st fr : Word} {ws : List Way} (m : Made st fr ws) {w : Way} (h1 : w.s ∈ fr) (h2 : w.t ∈ st) (h3 : D.plainA w.ns = true) (h4 : 0 ≤ w.d ∧ w.d ≤ 20) (h5 : ¬ ∃ v ∈ ws, v.n = w.n ∧ v.s = w.s) : Made st fr (ws ++ [w]) := by
  refine ⟨?_, ?_, ?_, ?_, ?_⟩
  · intro v hv
    rcases List.mem_append.mp hv with hv | hv
    · exact m.src v hv
    · rw [List.mem_singleton.mp hv]; exact h1
  · intro v hv
    rcases List.mem_append.mp hv with hv | hv
    · exact m.tgt v hv
    · rw [List.mem_singleton.mp hv]; exact h2
  · intro v hv
    rcases List.mem_append.mp hv with hv | hv
    · exact m.pl v hv
    · rw [List.mem_singleton.mp hv]; exact h3
  · intro v hv
    rcases List.mem_append.mp hv with hv | hv
    · exact m.day v hv
    · rw [List.mem_singleton.mp hv]; exact h4
  · intro v hv v' hv' e1 e2
    rcases List.mem_append.mp hv with hv | hv <;> rcases List.mem_append.mp hv' with hv' | hv'
    · exact m.uq v hv v' hv' e1 e2
    · rw [List.mem_singleton.mp hv'] at e1 e2
      exact absurd ⟨v, hv, e1, e2⟩ h5
    · rw [List.mem_singleton.mp hv] at e1 e2
      exact absurd ⟨v', hv', e1.symm, e2.symm⟩ h5
    · rw [List.mem_singleton.mp hv, List.mem_singleton.mp hv']
theorem fl_turn {c : Calls} {h : Hd} {q k : Nat} {ds : List Int} {st nm rs rel fr : Word} {ws : List Way} {x0 x6 x10 x11 x12 x13 x14 : Option Ev.D} {zk : Int} (hzk : zk = k) (hk : k < 16) (hq : h[q]? = some (.lst (nm.map D.str))) (hn : nm.length = 16) (hr : rs.length = 4) (hrel : rel.length = 4) (fit : Fit ds ssF) (hst : st ≠ []) (md : Made st fr ws) (hl : ws.length ≤ 90) :
    ∃ ws' y10 y11 y12 y13 y14, flBody c [x0, some (.lst (st.map D.str)), some (.ref q), some (.lst (rs.map D.str)), some (.lst (rel.map D.str)), some (.ref h.length), x6, some (.lst (fr.map D.str)), some (.ref (h.length + 1)), some (.int zk), x10, x11, x12, x13, x14, none, none, none] (h ++ [.lst (ds.map D.int), .lst (ws.map Way.D)]) =
      .nx [x0, some (.lst (st.map D.str)), some (.ref q), some (.lst (rs.map D.str)), some (.lst (rel.map D.str)), some (.ref h.length), x6, some (.lst (fr.map D.str)), some (.ref (h.length + 1)), some (.int zk), y10, y11, y12, y13, y14, none, none, none] (h ++ [.lst (ds.map D.int), .lst (ws'.map Way.D)]) ∧ Made st fr ws' ∧ ws'.length ≤ ws.length + 1 := by
  obtain ⟨H, hH⟩ : ∃ H : Hd, H = h ++ [.lst (ds.map D.int), .lst (ws.map Way.D)] := ⟨_, rfl⟩
  have hL : H[h.length]? = some (.lst (ds.map D.int)) := by rw [hH]; simp
  have hM : H[h.length + 1]? = some (.lst (ws.map Way.D)) := by rw [hH]; exact get2 h _ _
  have hq' : H[q]? = some (.lst (nm.map D.str)) := by
    rw [hH, List.getElem?_append_left (List.getElem?_eq_some_iff.mp hq).1]; exact hq
  obtain ⟨part, fp, e10⟩ := fl_part (c := c) (t := [x0, some (.lst (st.map D.str)), some (.ref q), some (.lst (rs.map D.str)), some (.lst (rel.map D.str)), some (.ref h.length), x6, some (.lst (fr.map D.str)), some (.ref (h.length + 1)), some (.int zk), x10, x11, x12, x13, x14, none, none, none]) rfl rfl hL fit hk hzk
  obtain ⟨name, e11⟩ := fl_name (c := c) (t := [x0, some (.lst (st.map D.str)), some (.ref q), some (.lst (rs.map D.str)), some (.lst (rel.map D.str)), some (.ref h.length), x6, some (.lst (fr.map D.str)), some (.ref (h.length + 1)), some (.int zk), some (.lst (part.map D.int)), x11, x12, x13, x14, none, none, none]) rfl rfl rfl hL hq' hn fit fp
  obtain ⟨ns, e12, p12, l12⟩ := fl_needs (c := c) (t := [x0, some (.lst (st.map D.str)), some (.ref q), some (.lst (rs.map D.str)), some (.lst (rel.map D.str)), some (.ref h.length), x6, some (.lst (fr.map D.str)), some (.ref (h.length + 1)), some (.int zk), some (.lst (part.map D.int)), some (.str name), x12, x13, x14, none, none, none]) (H := H) rfl rfl rfl hrel fp
  have s10 : sSet 10 flPart c [x0, some (.lst (st.map D.str)), some (.ref q), some (.lst (rs.map D.str)), some (.lst (rel.map D.str)), some (.ref h.length), x6, some (.lst (fr.map D.str)), some (.ref (h.length + 1)), some (.int zk), x10, x11, x12, x13, x14, none, none, none] H = .nx [x0, some (.lst (st.map D.str)), some (.ref q), some (.lst (rs.map D.str)), some (.lst (rel.map D.str)), some (.ref h.length), x6, some (.lst (fr.map D.str)), some (.ref (h.length + 1)), some (.int zk), some (.lst (part.map D.int)), x11, x12, x13, x14, none, none, none] H := by
    rw [sSet_ev]; unfold flPart; rw [e10, toS_ok]; rfl
  have s11 : sSet 11 flName c [x0, some (.lst (st.map D.str)), some (.ref q), some (.lst (rs.map D.str)), some (.lst (rel.map D.str)), some (.ref h.length), x6, some (.lst (fr.map D.str)), some (.ref (h.length + 1)), some (.int zk), some (.lst (part.map D.int)), x11, x12, x13, x14, none, none, none] H = .nx [x0, some (.lst (st.map D.str)), some (.ref q), some (.lst (rs.map D.str)), some (.lst (rel.map D.str)), some (.ref h.length), x6, some (.lst (fr.map D.str)), some (.ref (h.length + 1)), some (.int zk), some (.lst (part.map D.int)), some (.str name), x12, x13, x14, none, none, none] H := by
    rw [sSet_ev]; unfold flName; rw [e11, toS_ok]; rfl
  have s12 : sSet 12 (mComp false (iRng1 (mC (.int 4))) (.nm 16) [16] ndK ndM) c [x0, some (.lst (st.map D.str)), some (.ref q), some (.lst (rs.map D.str)), some (.lst (rel.map D.str)), some (.ref h.length), x6, some (.lst (fr.map D.str)), some (.ref (h.length + 1)), some (.int zk), some (.lst (part.map D.int)), some (.str name), x12, x13, x14, none, none, none] H = .nx [x0, some (.lst (st.map D.str)), some (.ref q), some (.lst (rs.map D.str)), some (.lst (rel.map D.str)), some (.ref h.length), x6, some (.lst (fr.map D.str)), some (.ref (h.length + 1)), some (.int zk), some (.lst (part.map D.int)), some (.str name), some (.lst ns), x13, x14, none, none, none] H := by
    rw [sSet_ev, e12, toS_ok]; rfl
  have gl : gLen [.lst (fr.map D.str)] H = .ok (.int (fr.length : Nat)) H := by simp [gLen, D.dict?, D.see]
  have tt : tCmp (mOp dGt (mB gLen (aCons (mVar 7) aNil)) (mC (.int 0))) c [x0, some (.lst (st.map D.str)), some (.ref q), some (.lst (rs.map D.str)), some (.lst (rel.map D.str)), some (.ref h.length), x6, some (.lst (fr.map D.str)), some (.ref (h.length + 1)), some (.int zk), some (.lst (part.map D.int)), some (.str name), some (.lst ns), x13, x14, none, none, none] H = .ok (decide (0 < fr.length)) H := by
    simp only [tCmp_ev, mOp_ev, mB_ev, aCons_ev, mVar_ev, List.getElem?_cons_succ, List.getElem?_cons_zero, bind_ok, aNil_ev, gl, mC_ev]
    simp [dCmp]
  rw [← hH]
  unfold flBody
  rw [sSeq_ev, s10, seq_nx, sSeq_ev, s11, seq_nx, sSeq_ev, s12, seq_nx, sIf_ev, tt, toS_ok]
  by_cases qf : 0 < fr.length
  · rw [decide_eq_true qf, if_pos rfl]
    have hfr : fr ≠ [] := fun z => by rw [z] at qf; simp at qf
    obtain ⟨sr, hsr, e13⟩ := fl_pick (c := c) (H := H) (i := 7) (j := 1) (b := 8) (t := [x0, some (.lst (st.map D.str)), some (.ref q), some (.lst (rs.map D.str)), some (.lst (rel.map D.str)), some (.ref h.length), x6, some (.lst (fr.map D.str)), some (.ref (h.length + 1)), some (.int zk), some (.lst (part.map D.int)), some (.str name), some (.lst ns), x13, x14, none, none, none]) rfl rfl fp rfl hfr
    obtain ⟨tg, htg, e14⟩ := fl_pick (c := c) (H := H) (i := 1) (j := 2) (b := 8) (t := [x0, some (.lst (st.map D.str)), some (.ref q), some (.lst (rs.map D.str)), some (.lst (rel.map D.str)), some (.ref h.length), x6, some (.lst (fr.map D.str)), some (.ref (h.length + 1)), some (.int zk), some (.lst (part.map D.int)), some (.str name), some (.lst ns), some (.str sr), x14, none, none, none]) rfl rfl fp rfl hst
    have s13 : sSet 13 (mOp dIx (mVar 7) (mOp dMod (mB gInt (aCons (mOp dIx (mVar 10) (mC (.int 1))) aNil)) (mB gLen (aCons (mVar 7) aNil)))) c [x0, some (.lst (st.map D.str)), some (.ref q), some (.lst (rs.map D.str)), some (.lst (rel.map D.str)), some (.ref h.length), x6, some (.lst (fr.map D.str)), some (.ref (h.length + 1)), some (.int zk), some (.lst (part.map D.int)), some (.str name), some (.lst ns), x13, x14, none, none, none] H = .nx [x0, some (.lst (st.map D.str)), some (.ref q), some (.lst (rs.map D.str)), some (.lst (rel.map D.str)), some (.ref h.length), x6, some (.lst (fr.map D.str)), some (.ref (h.length + 1)), some (.int zk), some (.lst (part.map D.int)), some (.str name), some (.lst ns), some (.str sr), x14, none, none, none] H := by
      rw [sSet_ev, show (.int 1 : Ev.D) = .int ((1 : Nat) : Int) from rfl, e13, toS_ok]; rfl
    have s14 : sSet 14 (mOp dIx (mVar 1) (mOp dMod (mB gInt (aCons (mOp dIx (mVar 10) (mC (.int 2))) aNil)) (mB gLen (aCons (mVar 1) aNil)))) c [x0, some (.lst (st.map D.str)), some (.ref q), some (.lst (rs.map D.str)), some (.lst (rel.map D.str)), some (.ref h.length), x6, some (.lst (fr.map D.str)), some (.ref (h.length + 1)), some (.int zk), some (.lst (part.map D.int)), some (.str name), some (.lst ns), some (.str sr), x14, none, none, none] H = .nx [x0, some (.lst (st.map D.str)), some (.ref q), some (.lst (rs.map D.str)), some (.lst (rel.map D.str)), some (.ref h.length), x6, some (.lst (fr.map D.str)), some (.ref (h.length + 1)), some (.int zk), some (.lst (part.map D.int)), some (.str name), some (.lst ns), some (.str sr), some (.str tg), none, none, none] H := by
      rw [sSet_ev, show (.int 2 : Ev.D) = .int ((2 : Nat) : Int) from rfl, e14, toS_ok]; rfl
    have ti := fl_in (c := c) (H := H) (t := [x0, some (.lst (st.map D.str)), some (.ref q), some (.lst (rs.map D.str)), some (.lst (rel.map D.str)), some (.ref h.length), x6, some (.lst (fr.map D.str)), some (.ref (h.length + 1)), some (.int zk), some (.lst (part.map D.int)), some (.str name), some (.lst ns), some (.str sr), some (.str tg), none, none, none]) rfl rfl rfl rfl hM (by omega)
    unfold flAdd flIn
    rw [sSeq_ev, s13, seq_nx, sSeq_ev, s14, seq_nx, sIf_ev, ti, toS_ok]
    by_cases qd : ∃ w ∈ ws, w.n = name ∧ w.s = sr
    · refine ⟨ws, some (.lst (part.map D.int)), some (.str name), some (.lst ns), some (.str sr), some (.str tg), ?_, md, by omega⟩
      rw [decide_eq_true qd, if_neg (by decide), sNil_ev, ← hH]
    · obtain ⟨ro, er⟩ := fl_role (c := c) (H := H) (t := [x0, some (.lst (st.map D.str)), some (.ref q), some (.lst (rs.map D.str)), some (.lst (rel.map D.str)), some (.ref h.length), x6, some (.lst (fr.map D.str)), some (.ref (h.length + 1)), some (.int zk), some (.lst (part.map D.int)), some (.str name), some (.lst ns), some (.str sr), some (.str tg), none, none, none]) rfl rfl hr fp
      obtain ⟨d, ed, d0, d1⟩ := fp.get (show p13[3]? = some 21 from rfl)
      have i3 := ix_ints (z := 3) (k := 3) rfl H ed
      have gt : gTuple [.lst ns] H = .ok (.tup ns) H := by simp [gTuple, seqOf, D.see]
      have ew : flWay c [x0, some (.lst (st.map D.str)), some (.ref q), some (.lst (rs.map D.str)), some (.lst (rel.map D.str)), some (.ref h.length), x6, some (.lst (fr.map D.str)), some (.ref (h.length + 1)), some (.int zk), some (.lst (part.map D.int)), some (.str name), some (.lst ns), some (.str sr), some (.str tg), none, none, none] H = .ok (Way.D ⟨name, sr, tg, d, ro, ns⟩) H := by
        unfold flWay flRole
        rw [mTup_ev, aCons_ev]
        have m3 : mOp dIx (mVar 10) (mC (.int 3)) c [x0, some (.lst (st.map D.str)), some (.ref q), some (.lst (rs.map D.str)), some (.lst (rel.map D.str)), some (.ref h.length), x6, some (.lst (fr.map D.str)), some (.ref (h.length + 1)), some (.int zk), some (.lst (part.map D.int)), some (.str name), some (.lst ns), some (.str sr), some (.str tg), none, none, none] H = .ok (.int d) H := by
          simp only [mOp_ev, mVar_ev, List.getElem?_cons_succ, List.getElem?_cons_zero, bind_ok, mC_ev, i3]
        have mg : mB gTuple (aCons (mVar 12) aNil) c [x0, some (.lst (st.map D.str)), some (.ref q), some (.lst (rs.map D.str)), some (.lst (rel.map D.str)), some (.ref h.length), x6, some (.lst (fr.map D.str)), some (.ref (h.length + 1)), some (.int zk), some (.lst (part.map D.int)), some (.str name), some (.lst ns), some (.str sr), some (.str tg), none, none, none] H = .ok (.tup ns) H := by
          simp only [mB_ev, aCons_ev, mVar_ev, List.getElem?_cons_succ, List.getElem?_cons_zero, bind_ok, aNil_ev, gt]
        simp only [aCons_ev, mVar_ev, List.getElem?_cons_succ, List.getElem?_cons_zero, bind_ok, m3, er, mg, aNil_ev]
        exact freshT_ev _ (by simp)
      have ap := append_at (c := c) (t := [x0, some (.lst (st.map D.str)), some (.ref q), some (.lst (rs.map D.str)), some (.lst (rel.map D.str)), some (.ref h.length), x6, some (.lst (fr.map D.str)), some (.ref (h.length + 1)), some (.int zk), some (.lst (part.map D.int)), some (.str name), some (.lst ns), some (.str sr), some (.str tg), none, none, none]) (h := H) (i := 8) (L := h.length + 1) (m := flWay) (d := Way.D ⟨name, sr, tg, d, ro, ns⟩) (xs := ws.map Way.D) (ys := ws.map Way.D) rfl hM ew hM (by rw [List.length_map]; omega)
      refine ⟨ws ++ [⟨name, sr, tg, d, ro, ns⟩], some (.lst (part.map D.int)), some (.str name), some (.lst ns), some (.str sr), some (.str tg), ?_, md.add (w := ⟨name, sr, tg, d, ro, ns⟩) hsr htg p12 ⟨d0, by show d ≤ 20; omega⟩ qd, by simp⟩
      rw [decide_eq_false qd, if_pos (by decide), ap, hH, set2, List.map_append, List.map_singleton]
  · rw [decide_eq_false qf, if_neg (by decide)]
    exact ⟨ws, some (.lst (part.map D.int)), some (.str name), some (.lst ns), x13, x14, by rw [sNil_ev, ← hH], md, by omega⟩
end K04

namespace K04
open PySem L2 Ev
abbrev relW : Word := [[98, 108, 111, 99, 107, 101, 114], [99, 104, 105, 108, 100], [111, 114, 105, 103, 105, 110, 97, 108], [112, 97, 114, 101, 110, 116]]
abbrev flRel : M := (mLst false (aCons (mC (.str [98, 108, 111, 99, 107, 101, 114])) (aCons (mC (.str [99, 104, 105, 108, 100])) (aCons (mC (.str [111, 114, 105, 103, 105, 110, 97, 108])) (aCons (mC (.str [112, 97, 114, 101, 110, 116])) aNil)))))
abbrev flSz : M := (mOp (dAdd false) (mOp (dAdd false) (mLst false (aCons (mC (.int 8)) (aCons (mC (.int 17)) (aCons (mC (.int 4)) aNil)))) (mOp (dMul false) (mLst false (aCons (mC (.int 3)) aNil)) (mC (.int 8)))) (mOp (dMul false) (mLst false (aCons (mC (.int 16)) (aCons (mC (.int 8)) (aCons (mC (.int 8)) (aCons (mC (.int 21)) (aCons (mC (.int 4)) (aCons (mC (.int 3)) (aCons (mC (.int 3)) (aCons (mC (.int 3)) (aCons (mC (.int 3)) (aCons (mC (.int 10)) (aCons (mC (.int 10)) (aCons (mC (.int 10)) (aCons (mC (.int 10)) aNil)))))))))))))) (mC (.int 16))))
section
variable {c : Calls} {t : Tau} {H : Hd}
theorem fl_sz : flSz c t H = .ok (.lst (ssF.map D.int)) H := by
  have m1 := mul_lst (xs := [.int 3]) (z := 8) (N := 8) rfl (by omega) (by simp) H
  have m2 := mul_lst (xs := p13.map D.int) (z := 16) (N := 16) rfl (by omega) (by simp) H
  have l2 : (List.replicate 16 (p13.map D.int)).flatten = ((List.replicate 16 p13).flatten).map D.int := by
    rw [List.map_flatten, List.map_replicate]
  have l1 : (List.replicate 8 [D.int 3]).flatten = (List.replicate 8 (3 : Int)).map D.int := rfl
  rw [l1] at m1
  rw [l2] at m2
  have a1 := add_lst (xs := [.int 8, .int 17, .int 4]) (ys := (List.replicate 8 (3 : Int)).map D.int) (by simp) (by simp) H
  have a2 := add_lst (xs := [.int 8, .int 17, .int 4] ++ (List.replicate 8 (3 : Int)).map D.int) (ys := ((List.replicate 16 p13).flatten).map D.int) (by simp) (by rw [List.length_map]; decide) H
  have f1 : fresh false [D.int 8, .int 17, .int 4] H = .ok (.lst [D.int 8, .int 17, .int 4]) H := freshF _ (by simp)
  have f2 : fresh false [D.int 3] H = .ok (.lst [D.int 3]) H := freshF _ (by simp)
  have f3 : fresh false [D.int 16, .int 8, .int 8, .int 21, .int 4, .int 3, .int 3, .int 3, .int 3, .int 10, .int 10, .int 10, .int 10] H = .ok (.lst (p13.map D.int)) H := freshF _ (by simp)
  unfold flSz
  simp only [mOp_ev, mLst_ev, aCons_ev, mC_ev, bind_ok, aNil_ev, f1, f2, f3, m1, a1, m2, a2]
  rw [List.map_append, List.map_append]
  rfl
abbrev clK : MB := (tCmp (mOp (dEq false) (mOp dIx (mVar 5) (mOp (dAdd false) (mC (.int 3)) (mVar 9))) (mC (.int 1))))
theorem ssF_cl {j : Nat} (hj : j < 8) : ssF[3 + j]? = some 3 := by
  have : ∀ j : Fin 8, ssF[3 + j.val]? = some 3 := by decide
  exact this ⟨j, hj⟩
theorem fl_closed {L : Nat} {ds : List Int} {st : Word} (tl : t.length = 18) (t1 : t[1]? = some (some (.lst (st.map D.str)))) (t5 : t[5]? = some (some (.ref L))) (hL : H[L]? = some (.lst (ds.map D.int))) (fit : Fit ds ssF) (hs : st.length ≤ 8) :
    ∃ cs : Word, mComp false (iRng1 (mB gLen (aCons (mVar 1) aNil))) (.nm 9) [9] clK (mOp dIx (mVar 1) (mVar 9)) c t H = .ok (.lst (cs.map D.str)) H ∧ (∀ x ∈ cs, x ∈ st) ∧ cs.length ≤ 8 := by
  obtain ⟨z, hz⟩ : ∃ z : Int, z = (st.length : Nat) := ⟨_, rfl⟩
  have gl : gLen [.lst (st.map D.str)] H = .ok (.int z) H := by rw [hz]; simp [gLen, D.dict?, D.see]
  have ei : iRng1 (mB gLen (aCons (mVar 1) aNil)) c t H = .ok ⟨rngD 0 st.length, none⟩ H := by
    simp only [iRng1_ev, mB_ev, aCons_ev, mVar_ev, t1, bind_ok, aNil_ev, gl]
    rw [dRng1_ok _ (by omega) (by omega), show z.toNat = st.length by omega]
  obtain ⟨xs, h', e, hI⟩ := compL_gen (s := ⟨rngD 0 st.length, none⟩) (step := stepC c (wipeT t [9]) (.nm 9) clK (mOp dIx (mVar 1) (mVar 9))) (I := fun dd os h => h = H ∧ (∃ cs : Word, os = cs.map D.str ∧ (∀ x ∈ cs, x ∈ st) ∧ cs.length + dd.length ≤ 8) ∧ ∀ d ∈ dd, ∃ j : Nat, j < st.length ∧ d = .int (j : Int))
    (by
      rintro d dd os h ⟨rfl, ⟨cs, rfl, hcs, hl⟩, hd⟩
      obtain ⟨j, hj, rfl⟩ := hd d (List.mem_cons_self ..)
      have v9 : ((wipeT t [9]).set 9 (some (D.int (j : Int))))[9]? = some (some (.int (j : Int))) := List.getElem?_set_self (by simp [wipeT, tl])
      have v1 : ((wipeT t [9]).set 9 (some (D.int (j : Int))))[1]? = some (some (.lst (st.map D.str))) := by simp [wipeT, List.getElem?_set_ne, t1]
      have v5 : ((wipeT t [9]).set 9 (some (D.int (j : Int))))[5]? = some (some (.ref L)) := by simp [wipeT, List.getElem?_set_ne, t5]
      obtain ⟨a, ea, _, _⟩ := fit.get (ssF_cl (j := j) (by omega))
      have i1 := row_ix hL (z := 3 + (j : Int)) (n := 3 + j) (by omega) ea
      have i3 := ix_strs (z := (j : Int)) (k := j) rfl h (List.getElem?_eq_getElem hj)
      have a1 : dAdd false (.int 3) (.int (j : Int)) h = .ok (.int (3 + (j : Int))) h := rfl
      have ek : clK c ((wipeT t [9]).set 9 (some (D.int (j : Int)))) h = .ok (decide (a = 1)) h := by
        unfold clK
        simp only [tCmp_ev, mOp_ev, mVar_ev, v5, v9, bind_ok, mC_ev, a1, i1, eq_i, dBl_ev]
      have em : mOp dIx (mVar 1) (mVar 9) c ((wipeT t [9]).set 9 (some (D.int (j : Int)))) h = .ok (.str st[j]) h := by
        simp only [mOp_ev, mVar_ev, v1, v9, bind_ok, i3]
      rw [List.length_cons] at hl
      refine ⟨trivial, if a = 1 then some (.str st[j]) else none, h, ?_, rfl, ?_, fun d hd' => hd d (List.mem_cons_of_mem _ hd')⟩
      · unfold stepC asg
        simp only [ek, bind_ok]
        by_cases q : a = 1
        · simp only [q, decide_true, if_true, em]
          rfl
        · simp only [q, decide_false, if_false]
          rfl
      · by_cases q : a = 1
        · refine ⟨cs ++ [st[j]], by simp [q], fun x hx => ?_, by simp; omega⟩
          rcases List.mem_append.mp hx with hx | hx
          · exact hcs x hx
          · rw [List.mem_singleton.mp hx]; exact List.getElem_mem hj
        · exact ⟨cs, by simp [q], hcs, by omega⟩)
    (fun os h _ => trivial) (rngD 0 st.length) [] H ⟨rfl, ⟨[], rfl, fun x hx => (nomatch hx), by rw [rngD_eq]; simp; omega⟩, fun d hd => by
      rw [rngD_eq] at hd
      obtain ⟨j, hj, rfl⟩ := List.mem_map.mp hd
      exact ⟨j, List.mem_range.mp hj, rfl⟩⟩
  obtain ⟨rfl, ⟨cs, ec, hcs, hl⟩, _⟩ := hI
  rw [List.nil_append] at ec
  subst ec
  simp at hl
  refine ⟨cs, ?_, hcs, hl⟩
  unfold mComp
  rw [ei, bind_ok, e, bind_ok]
  exact freshF _ (by rw [List.length_map]; omega)
end
theorem cutL_take {α : Type} (xs : List α) {r : Int} (h1 : 0 ≤ r) : cutL xs none (some r) = xs.take r.toNat := by
  have e1 : cutI xs.length xs.length (some r) = min r.toNat xs.length := if_neg (by omega)
  have e2 : cutI xs.length 0 none = 0 := rfl
  unfold cutL
  rw [e1, e2, List.drop_zero, Nat.sub_zero]
  by_cases q : r.toNat ≤ xs.length
  · rw [Nat.min_eq_left q]
  · rw [Nat.min_eq_right (by omega), List.take_of_length_le (by omega), List.take_of_length_le (by omega)]
theorem c_flow {n : Nat} (hn : 2 ≤ n) (cell : Int) {S nm rs : Word} (hS : S.length = 8) (nd : S.Nodup) (ne : ∀ x ∈ S, x ≠ []) (hnm : nm.length = 16) (hrs : rs.length = 4) {q : Nat} {h : Hd} (hq : h[q]? = some (.lst (nm.map D.str))) :
    ∃ f : Flow, callN T n 17 [.int cell, .lst (S.map D.str), .ref q, .lst (rs.map D.str)] h = .ok f.D h ∧ f.ok ∧ (∀ w ∈ f.ws, 0 ≤ w.d ∧ w.d ≤ 20) ∧ Uq f ∧ (∀ x ∈ f.st, x ∈ S) ∧ f.st ≠ [] := by
  obtain ⟨m, rfl⟩ := lvl hn
  rw [call_at (F := ⟨4, 18, b__law_flow⟩) rfl]
  obtain ⟨ds, e15, fit⟩ := c_digits (n := m + 1) (by omega) cell ssF ssF_ok.1 ssF_ok.2 h
  generalize callN T (m + 1) = c at e15
  have ea : ([D.int cell, .lst (S.map D.str), .ref q, .lst (rs.map D.str)].map some ++ List.replicate (18 - 4) (none : Option Ev.D)) = [some (.int cell), some (.lst (S.map D.str)), some (.ref q), some (.lst (rs.map D.str)), none, none, none, none, none, none, none, none, none, none, none, none, none, none] := rfl
  rw [runFn_at (np := 4) (nn := 18) rfl ea]
  have hb : b__law_flow = sSeq (sSet 4 flRel) (sSeq (sSet 5 (mCall 15 (aCons (mVar 0) (aCons flSz aNil)))) (sSeq (sSet 1 (mCut false (mVar 1) pNo (pYes (mOp (dAdd false) (mC (.int 1)) (mOp dIx (mVar 5) (mC (.int 0))))))) (sSeq (sSet 6 (mComp false (iRng1 (mB gLen (aCons (mVar 1) aNil))) (.nm 9) [9] clK (mOp dIx (mVar 1) (mVar 9)))) (sSeq (sSet 7 (mComp false (iVal (mVar 1)) (.nm 15) [15] (tCmp (mOp (dIn true) (mVar 15) (mVar 6))) (mVar 15))) (sSeq (sSet 8 (mLst true aNil)) (sSeq (sFor (iRng1 (mOp dIx (mVar 5) (mC (.int 1)))) (.nm 9) flBody)
    (sRet (mTup (aCons (mB gTuple (aCons (mVar 1) aNil)) (aCons (mB gTuple (aCons (mVar 6) aNil)) (aCons (mB gTuple (aCons (mVar 8) aNil)) aNil)))))))))))  := rfl
  have s4 : sSet 4 flRel c [some (.int cell), some (.lst (S.map D.str)), some (.ref q), some (.lst (rs.map D.str)), none, none, none, none, none, none, none, none, none, none, none, none, none, none] h = .nx [some (.int cell), some (.lst (S.map D.str)), some (.ref q), some (.lst (rs.map D.str)), some (.lst (relW.map D.str)), none, none, none, none, none, none, none, none, none, none, none, none, none] h := by
    simp
  have s5 : sSet 5 (mCall 15 (aCons (mVar 0) (aCons flSz aNil))) c [some (.int cell), some (.lst (S.map D.str)), some (.ref q), some (.lst (rs.map D.str)), some (.lst (relW.map D.str)), none, none, none, none, none, none, none, none, none, none, none, none, none] h = .nx [some (.int cell), some (.lst (S.map D.str)), some (.ref q), some (.lst (rs.map D.str)), some (.lst (relW.map D.str)), some (.ref h.length), none, none, none, none, none, none, none, none, none, none, none, none] (h ++ [.lst (ds.map D.int)]) := by
    have e := fl_sz (c := c) (t := [some (.int cell), some (.lst (S.map D.str)), some (.ref q), some (.lst (rs.map D.str)), some (.lst (relW.map D.str)), none, none, none, none, none, none, none, none, none, none, none, none, none]) (H := h)
    rw [sSet_ev, mCall_ev, aCons_ev]
    simp only [mVar_ev, List.getElem?_cons_zero, bind_ok, aCons_ev, e, aNil_ev, e15, toS_ok]
    rfl
  obtain ⟨d0, ed0, p0, p1⟩ := fit.get (show ssF[0]? = some 8 from rfl)
  obtain ⟨d1, ed1, g0, g1⟩ := fit.get (show ssF[1]? = some 17 from rfl)
  have gL : (h ++ [O.lst (ds.map D.int)])[h.length]? = some (.lst (ds.map D.int)) := get_last h _
  obtain ⟨st, hst⟩ : ∃ st : Word, st = S.take (1 + d0).toNat := ⟨_, rfl⟩
  have stl : st.length = (1 + d0).toNat := by rw [hst, List.length_take]; omega
  have s1 : sSet 1 (mCut false (mVar 1) pNo (pYes (mOp (dAdd false) (mC (.int 1)) (mOp dIx (mVar 5) (mC (.int 0)))))) c [some (.int cell), some (.lst (S.map D.str)), some (.ref q), some (.lst (rs.map D.str)), some (.lst (relW.map D.str)), some (.ref h.length), none, none, none, none, none, none, none, none, none, none, none, none] (h ++ [.lst (ds.map D.int)]) = .nx [some (.int cell), some (.lst (st.map D.str)), some (.ref q), some (.lst (rs.map D.str)), some (.lst (relW.map D.str)), some (.ref h.length), none, none, none, none, none, none, none, none, none, none, none, none] (h ++ [.lst (ds.map D.int)]) := by
    have i0 := row_ix gL (z := 0) (n := 0) rfl ed0
    have a1 : dAdd false (.int 1) (.int d0) (h ++ [.lst (ds.map D.int)]) = .ok (.int (1 + d0)) (h ++ [.lst (ds.map D.int)]) := rfl
    have ec : dCut false (.lst (S.map D.str)) none (some (1 + d0)) (h ++ [.lst (ds.map D.int)]) = .ok (.lst (st.map D.str)) (h ++ [.lst (ds.map D.int)]) := by
      unfold dCut
      simp only [D.see]
      rw [cutL_map, cutL_take S (by omega), ← hst, freshF _ (by rw [List.length_map]; omega)]
    rw [sSet_ev]
    simp only [mCut_ev, mVar_ev, List.getElem?_cons_succ, List.getElem?_cons_zero, bind_ok, pNo_ev, pYes_ev, mOp_ev, mC_ev, i0, a1, dPart_ev, ec, toS_ok]
    rfl
  obtain ⟨cs, e6, hcs, lcs⟩ := fl_closed (c := c) (t := [some (.int cell), some (.lst (st.map D.str)), some (.ref q), some (.lst (rs.map D.str)), some (.lst (relW.map D.str)), some (.ref h.length), none, none, none, none, none, none, none, none, none, none, none, none]) rfl rfl rfl gL fit (by omega)
  have s6 : sSet 6 (mComp false (iRng1 (mB gLen (aCons (mVar 1) aNil))) (.nm 9) [9] clK (mOp dIx (mVar 1) (mVar 9))) c [some (.int cell), some (.lst (st.map D.str)), some (.ref q), some (.lst (rs.map D.str)), some (.lst (relW.map D.str)), some (.ref h.length), none, none, none, none, none, none, none, none, none, none, none, none] (h ++ [.lst (ds.map D.int)]) = .nx [some (.int cell), some (.lst (st.map D.str)), some (.ref q), some (.lst (rs.map D.str)), some (.lst (relW.map D.str)), some (.ref h.length), some (.lst (cs.map D.str)), none, none, none, none, none, none, none, none, none, none, none] (h ++ [.lst (ds.map D.int)]) := by
    rw [sSet_ev, e6, toS_ok]; rfl
  have e7 := comp_states (c := c) (t := [some (.int cell), some (.lst (st.map D.str)), some (.ref q), some (.lst (rs.map D.str)), some (.lst (relW.map D.str)), some (.ref h.length), some (.lst (cs.map D.str)), none, none, none, none, none, none, none, none, none, none, none]) (h := h ++ [.lst (ds.map D.int)]) (i := 15) (it := iVal (mVar 1)) (K := tCmp (mOp (dIn true) (mVar 15) (mVar 6))) (l := st) (by simp [dIter]) (by simp) (fun x => true != decide (x ∈ cs)) (by omega) (fun x hx => by
    have := in_lst (n := true) (x := x) cs (h ++ [.lst (ds.map D.int)])
    simp [wipeT, this])
  obtain ⟨fr, hfr⟩ : ∃ fr : Word, fr = st.filter fun x => true != decide (x ∈ cs) := ⟨_, rfl⟩
  rw [← hfr] at e7
  have s7 : sSet 7 (mComp false (iVal (mVar 1)) (.nm 15) [15] (tCmp (mOp (dIn true) (mVar 15) (mVar 6))) (mVar 15)) c [some (.int cell), some (.lst (st.map D.str)), some (.ref q), some (.lst (rs.map D.str)), some (.lst (relW.map D.str)), some (.ref h.length), some (.lst (cs.map D.str)), none, none, none, none, none, none, none, none, none, none, none] (h ++ [.lst (ds.map D.int)]) = .nx [some (.int cell), some (.lst (st.map D.str)), some (.ref q), some (.lst (rs.map D.str)), some (.lst (relW.map D.str)), some (.ref h.length), some (.lst (cs.map D.str)), some (.lst (fr.map D.str)), none, none, none, none, none, none, none, none, none, none] (h ++ [.lst (ds.map D.int)]) := by
    rw [sSet_ev, e7, toS_ok]; rfl
  have s8 : sSet 8 (mLst true aNil) c [some (.int cell), some (.lst (st.map D.str)), some (.ref q), some (.lst (rs.map D.str)), some (.lst (relW.map D.str)), some (.ref h.length), some (.lst (cs.map D.str)), some (.lst (fr.map D.str)), none, none, none, none, none, none, none, none, none, none] (h ++ [.lst (ds.map D.int)]) = .nx [some (.int cell), some (.lst (st.map D.str)), some (.ref q), some (.lst (rs.map D.str)), some (.lst (relW.map D.str)), some (.ref h.length), some (.lst (cs.map D.str)), some (.lst (fr.map D.str)), some (.ref (h.length + 1)), none, none, none, none, none, none, none, none, none] (h ++ [.lst (ds.map D.int), .lst []]) := by
    simp
  obtain ⟨N, hN⟩ : ∃ N, N = d1.toNat := ⟨_, rfl⟩
  have ei : iRng1 (mOp dIx (mVar 5) (mC (.int 1))) c [some (.int cell), some (.lst (st.map D.str)), some (.ref q), some (.lst (rs.map D.str)), some (.lst (relW.map D.str)), some (.ref h.length), some (.lst (cs.map D.str)), some (.lst (fr.map D.str)), some (.ref (h.length + 1)), none, none, none, none, none, none, none, none, none] (h ++ [.lst (ds.map D.int), .lst []]) = .ok ⟨rngD 0 N, none⟩ (h ++ [.lst (ds.map D.int), .lst []]) := by
    have i0 := row_ix (H := h ++ [.lst (ds.map D.int), .lst []]) (L := h.length) (ds := ds) (by simp) (z := 1) (n := 1) rfl ed1
    simp only [iRng1_ev, mOp_ev, mVar_ev, List.getElem?_cons_succ, List.getElem?_cons_zero, bind_ok, mC_ev, i0]
    rw [dRng1_ok _ (by omega) (by omega), hN]
  have stne : st ≠ [] := fun z => by rw [z] at stl; simp at stl; omega
  obtain ⟨ws, x9, x10, x11, x12, x13, x14, e, md, lws⟩ := sFor_gen (b := flBody) (g := .nm 9) (I := fun xs t h' => ∃ (s m : Nat) (ws : List Way) (x9 x10 x11 x12 x13 x14 : Option Ev.D), xs = (List.range' s m).map (fun (k : Nat) => D.int (k : Int)) ∧ s + m = N ∧ t = [some (.int cell), some (.lst (st.map D.str)), some (.ref q), some (.lst (rs.map D.str)), some (.lst (relW.map D.str)), some (.ref h.length), some (.lst (cs.map D.str)), some (.lst (fr.map D.str)), some (.ref (h.length + 1)), x9, x10, x11, x12, x13, x14, none, none, none] ∧ h' = h ++ [.lst (ds.map D.int), .lst (ws.map Way.D)] ∧ Made st fr ws ∧ ws.length ≤ s)
    (O := fun y => ∃ (ws : List Way) (x9 x10 x11 x12 x13 x14 : Option Ev.D), y = .nx [some (.int cell), some (.lst (st.map D.str)), some (.ref q), some (.lst (rs.map D.str)), some (.lst (relW.map D.str)), some (.ref h.length), some (.lst (cs.map D.str)), some (.lst (fr.map D.str)), some (.ref (h.length + 1)), x9, x10, x11, x12, x13, x14, none, none, none] (h ++ [.lst (ds.map D.int), .lst (ws.map Way.D)]) ∧ Made st fr ws ∧ ws.length ≤ 16) ei
    (by
      rintro d xs t h' ⟨s, m, ws, x9, x10, x11, x12, x13, x14, hd, hsm, rfl, rfl, md, hl⟩
      cases m with
      | zero => simp at hd
      | succ m =>
        rw [List.range'_succ, List.map_cons] at hd
        obtain ⟨rfl, rfl⟩ := List.cons.inj hd
        refine ⟨trivial, [some (.int cell), some (.lst (st.map D.str)), some (.ref q), some (.lst (rs.map D.str)), some (.lst (relW.map D.str)), some (.ref h.length), some (.lst (cs.map D.str)), some (.lst (fr.map D.str)), some (.ref (h.length + 1)), some (.int (s : Int)), x10, x11, x12, x13, x14, none, none, none], rfl, ?_⟩
        obtain ⟨ws', y10, y11, y12, y13, y14, e, md', l'⟩ := fl_turn (c := c) (h := h) (k := s) (zk := (s : Int)) (rel := relW) (x0 := some (.int cell)) (x6 := some (.lst (cs.map D.str))) (x10 := x10) (x11 := x11) (x12 := x12) (x13 := x13) (x14 := x14) rfl (by omega) hq hnm hrs rfl fit stne md (by omega)
        rw [e]
        exact .nx ⟨s + 1, m, ws', _, y10, y11, y12, y13, y14, rfl, by omega, rfl, rfl, md', by omega⟩)
    (by
      rintro t h' ⟨s, m, ws, x9, x10, x11, x12, x13, x14, hd, hsm, rfl, rfl, md, hl⟩
      cases m with
      | succ m => simp [List.range'_succ] at hd
      | zero => exact ⟨trivial, ws, x9, x10, x11, x12, x13, x14, rfl, md, by omega⟩)
    ⟨0, N, [], none, none, none, none, none, none, by rw [rngD_eq, List.range_eq_range'], by omega, rfl, rfl, ⟨fun w hw => (by cases hw), fun w hw => (by cases hw), fun w hw => (by cases hw), fun w hw => (by cases hw), fun w hw => (by cases hw)⟩, by simp⟩
  have sub : ∀ x ∈ fr, x ∈ st := fun x hx => by rw [hfr] at hx; exact (List.mem_filter.mp hx).1
  have okf : (Flow.mk st cs ws).ok := ⟨by rw [hst]; exact nd.sublist (List.take_sublist _ _), by show st.length ≤ 8; omega, lws, hcs, fun w hw => sub _ (md.src w hw), md.tgt, md.pl, lcs, fun x hx => ne x (by
    have hx : x ∈ st := hx
    rw [hst] at hx; exact List.mem_of_mem_take hx)⟩
  refine ⟨⟨st, cs, ws⟩, ?_, okf, md.day, md.uq, fun x hx => by
    have hx : x ∈ st := hx
    rw [hst] at hx; exact List.mem_of_mem_take hx, stne⟩
  have g1 : gTuple [.lst (st.map D.str)] (h ++ [.lst (ds.map D.int), .lst (ws.map Way.D)]) = .ok (.tup (st.map D.str)) (h ++ [.lst (ds.map D.int), .lst (ws.map Way.D)]) := tup_of _ _
  have g2 : gTuple [.lst (cs.map D.str)] (h ++ [.lst (ds.map D.int), .lst (ws.map Way.D)]) = .ok (.tup (cs.map D.str)) (h ++ [.lst (ds.map D.int), .lst (ws.map Way.D)]) := tup_of _ _
  have g3 : gTuple [.ref (h.length + 1)] (h ++ [.lst (ds.map D.int), .lst (ws.map Way.D)]) = .ok (.tup (ws.map Way.D)) (h ++ [.lst (ds.map D.int), .lst (ws.map Way.D)]) := by simp [gTuple, seqOf, D.see]
  have ft : freshT [D.tup (st.map D.str), .tup (cs.map D.str), .tup (ws.map Way.D)] (h ++ [.lst (ds.map D.int), .lst (ws.map Way.D)]) = .ok (Flow.D ⟨st, cs, ws⟩) (h ++ [.lst (ds.map D.int), .lst (ws.map Way.D)]) := freshT_ev _ (by simp)
  rw [hb, sSeq_ev, s4, seq_nx, sSeq_ev, s5, seq_nx, sSeq_ev, s1, seq_nx, sSeq_ev, s6, seq_nx, sSeq_ev, s7, seq_nx, sSeq_ev, s8, seq_nx, sSeq_ev, e, seq_nx]
  simp only [sRet_ev, mTup_ev, aCons_ev, mB_ev, mVar_ev, List.getElem?_cons_succ, List.getElem?_cons_zero, bind_ok, aNil_ev, g1, g2, g3, ft, toS_ok, fin_rt]
  exact fin1_app (plain_lo (Flow.plain okf))
end K04

namespace K04
open PySem L2 Ev
/-! ### a trip -/
abbrev ssT : List Int := [13] ++ (List.replicate 12 [6, 16]).flatten
theorem ssT_ok : (∀ s ∈ ssT, 0 < s ∧ s < 1000000) ∧ ssT.length ≤ 500 := by decide
abbrev trSz : M := (mOp (dAdd false) (mLst false (aCons (mC (.int 13)) aNil)) (mOp (dMul false) (mLst false (aCons (mC (.int 6)) (aCons (mC (.int 16)) aNil))) (mC (.int 12))))
theorem tr_sz {c : Calls} {t : Tau} {H : Hd} : trSz c t H = .ok (.lst (ssT.map D.int)) H := by
  have m2 := mul_lst (xs := ([6, 16] : List Int).map D.int) (z := 12) (N := 12) rfl (by omega) (by simp) H
  have l2 : (List.replicate 12 (([6, 16] : List Int).map D.int)).flatten = ((List.replicate 12 ([6, 16] : List Int)).flatten).map D.int := by
    rw [List.map_flatten, List.map_replicate]
  rw [l2] at m2
  have a1 := add_lst (xs := [.int 13]) (ys := ((List.replicate 12 ([6, 16] : List Int)).flatten).map D.int) (by simp) (by rw [List.length_map]; decide) H
  have f1 : fresh false [D.int 13] H = .ok (.lst [D.int 13]) H := freshF _ (by simp)
  have f3 : fresh false [D.int 6, .int 16] H = .ok (.lst (([6, 16] : List Int).map D.int)) H := freshF _ (by simp)
  unfold trSz
  simp only [mOp_ev, mLst_ev, aCons_ev, mC_ev, bind_ok, aNil_ev, f1, f3, m2, a1]
  rfl
theorem ssT_at : ∀ k : Fin 12, ssT[1 + 2 * k.val]? = some 6 ∧ ssT[2 + 2 * k.val]? = some 16 := by decide
abbrev trK : MB := (tCmp (mOp (dEq false) (mOp dIx (mVar 8) (mC (.int 1))) (mVar 5)))
abbrev trIx (a : Int) : M := (mOp (dAdd false) (mC (.int a)) (mOp (dMul false) (mC (.int 2)) (mVar 6)))
noncomputable abbrev trBody : MS := (sSeq (sSet 7 (mComp false (iVal (mOp dIx (mVar 0) (mC (.int 2)))) (.nm 8) [8] trK (mVar 8)))
  (sIf (tOr (tCmp (mOp (dEq false) (mB gLen (aCons (mVar 7) aNil)) (mC (.int 0)))) (tCmp (mOp (dEq false) (mOp dIx (mVar 2) (trIx 1)) (mC (.int 0)))))
  (sExpr (mMt kAppend (mVar 4) (aCons (mOp dIx (mVar 3) (mOp dIx (mVar 2) (trIx 2))) aNil)))
  (sSeq (sSet 8 (mOp dIx (mVar 7) (mOp dMod (mB gInt (aCons (mOp dIx (mVar 2) (trIx 2)) aNil)) (mB gLen (aCons (mVar 7) aNil)))))
  (sSeq (sExpr (mMt kAppend (mVar 4) (aCons (mOp dIx (mVar 8) (mC (.int 0))) aNil)))
  (sSet 5 (mOp dIx (mVar 8) (mC (.int 2))))))))
def trF (x : List Nat) (d : Ev.D) : Option Ev.D := match d with
  | .tup (_ :: .str s :: _) => if s = x then some d else none
  | _ => none
theorem trF_way (x : List Nat) (w : Way) : trF x w.D = if w.s = x then some w.D else none := rfl
theorem tr_turn {f : Flow} (hw16 : f.ws.length ≤ 16) {c : Calls} {h : Hd} {R P k : Nat} {ds : List Int} {nm tr : Word} {x : List Nat} {x1 x7 x8 : Option Ev.D} {zk : Int} (hzk : zk = k) (hk : k < 12) (hR : h[R]? = some (.lst (ds.map D.int))) (hP : h[P]? = some (.lst (nm.map D.str))) (hn : nm.length = 16) (fit : Fit ds ssT) (hl : tr.length ≤ 90) :
    ∃ n y y7 y8, trBody c [some f.D, x1, some (.ref R), some (.ref P), some (.ref h.length), some (.str x), some (.int zk), x7, x8] (h ++ [.lst (tr.map D.str)]) =
      .nx [some f.D, x1, some (.ref R), some (.ref P), some (.ref h.length), some (.str y), some (.int zk), y7, y8] (h ++ [.lst ((tr ++ [n]).map D.str)]) := by
  obtain ⟨H, hH⟩ : ∃ H : Hd, H = h ++ [.lst (tr.map D.str)] := ⟨_, rfl⟩
  have hM : H[h.length]? = some (.lst (tr.map D.str)) := by rw [hH]; exact get_last h _
  have hR' : H[R]? = some (.lst (ds.map D.int)) := by
    rw [hH, List.getElem?_append_left (List.getElem?_eq_some_iff.mp hR).1]; exact hR
  have hP' : H[P]? = some (.lst (nm.map D.str)) := by
    rw [hH, List.getElem?_append_left (List.getElem?_eq_some_iff.mp hP).1]; exact hP
  obtain ⟨as1, as2⟩ := ssT_at ⟨k, hk⟩
  obtain ⟨a, ea, a0, a1⟩ := fit.get as1
  obtain ⟨b, eb, b0, b1⟩ := fit.get as2
  obtain ⟨S, hS⟩ : ∃ S, S = f.ws.filter fun w => decide (w.s = x) := ⟨_, rfl⟩
  have Sl : S.length ≤ 16 := by rw [hS]; exact Nat.le_trans (List.length_filter_le _ _) hw16
  have em : mComp false (iVal (mOp dIx (mVar 0) (mC (.int 2)))) (.nm 8) [8] trK (mVar 8) c [some f.D, x1, some (.ref R), some (.ref P), some (.ref h.length), some (.str x), some (.int zk), x7, x8] H = .ok (.lst (S.map Way.D)) H := by
    have ei : iVal (mOp dIx (mVar 0) (mC (.int 2))) c [some f.D, x1, some (.ref R), some (.ref P), some (.ref h.length), some (.str x), some (.int zk), x7, x8] H = .ok ⟨f.ws.map Way.D, none⟩ H := by
      simp [f2, dIter]
    unfold mComp
    rw [ei, bind_ok, comp_pure (s := ⟨f.ws.map Way.D, none⟩) trivial (f := trF x) (f.ws.map Way.D) (by
      intro d hd
      obtain ⟨w, _, rfl⟩ := List.mem_map.mp hd
      unfold stepC asg trK
      simp only [wipeT, List.set_cons_succ, List.set_cons_zero, tCmp_ev, mOp_ev, mVar_ev, List.getElem?_cons_succ, List.getElem?_cons_zero, bind_ok, mC_ev, w1, eq_w, dBl_ev]
      rw [trF_way]
      by_cases q : w.s = x
      · simp [q, noX]
      · simp [q, noX]), bind_ok]
    have : (f.ws.map Way.D).filterMap (trF x) = S.map Way.D := by
      rw [hS]
      generalize f.ws = ws
      induction ws with
      | nil => rfl
      | cons w ws ih =>
        rw [List.map_cons, List.filterMap_cons, ih, trF_way]
        by_cases q : w.s = x
        · simp [q]
        · simp [q]
    rw [this]
    exact freshF _ (by rw [List.length_map]; omega)
  have s7 : sSet 7 (mComp false (iVal (mOp dIx (mVar 0) (mC (.int 2)))) (.nm 8) [8] trK (mVar 8)) c [some f.D, x1, some (.ref R), some (.ref P), some (.ref h.length), some (.str x), some (.int zk), x7, x8] H = .nx [some f.D, x1, some (.ref R), some (.ref P), some (.ref h.length), some (.str x), some (.int zk), some (.lst (S.map Way.D)), x8] H := by
    rw [sSet_ev, em, toS_ok]; rfl
  obtain ⟨n, hnl⟩ : ∃ n : Int, n = (S.length : Nat) := ⟨_, rfl⟩
  have gl : gLen [.lst (S.map Way.D)] H = .ok (.int n) H := by rw [hnl]; simp [gLen, D.dict?, D.see]
  have ml : dMul false (.int 2) (.int zk) H = .ok (.int (2 * zk)) H := dMul_l (by decide) (by decide)
  have d1 : dAdd false (.int 1) (.int (2 * zk)) H = .ok (.int (1 + 2 * zk)) H := rfl
  have d2 : dAdd false (.int 2) (.int (2 * zk)) H = .ok (.int (2 + 2 * zk)) H := rfl
  have i1 := row_ix hR' (z := 1 + 2 * zk) (n := 1 + 2 * k) (by omega) ea
  have i2 := row_ix hR' (z := 2 + 2 * zk) (n := 2 + 2 * k) (by omega) eb
  have tt : tOr (tCmp (mOp (dEq false) (mB gLen (aCons (mVar 7) aNil)) (mC (.int 0)))) (tCmp (mOp (dEq false) (mOp dIx (mVar 2) (trIx 1)) (mC (.int 0)))) c [some f.D, x1, some (.ref R), some (.ref P), some (.ref h.length), some (.str x), some (.int zk), some (.lst (S.map Way.D)), x8] H = .ok (decide (n = 0 ∨ a = 0)) H := by
    have q1 : tCmp (mOp (dEq false) (mB gLen (aCons (mVar 7) aNil)) (mC (.int 0))) c [some f.D, x1, some (.ref R), some (.ref P), some (.ref h.length), some (.str x), some (.int zk), some (.lst (S.map Way.D)), x8] H = .ok (decide (n = 0)) H := by
      simp only [tCmp_ev, mOp_ev, mB_ev, aCons_ev, mVar_ev, List.getElem?_cons_succ, List.getElem?_cons_zero, bind_ok, aNil_ev, gl, mC_ev, eq_i, dBl_ev]
    have q2 : tCmp (mOp (dEq false) (mOp dIx (mVar 2) (trIx 1)) (mC (.int 0))) c [some f.D, x1, some (.ref R), some (.ref P), some (.ref h.length), some (.str x), some (.int zk), some (.lst (S.map Way.D)), x8] H = .ok (decide (a = 0)) H := by
      unfold trIx
      simp only [tCmp_ev, mOp_ev, mVar_ev, List.getElem?_cons_succ, List.getElem?_cons_zero, bind_ok, mC_ev, ml, d1, i1, eq_i, dBl_ev]
    rw [tOr_ev, q1, bind_ok]
    by_cases p : n = 0
    · rw [decide_eq_true p, if_pos rfl, decide_eq_true (.inl p)]
    · rw [decide_eq_false p, if_neg (by decide), q2]
      simp [p]
  rw [← hH]
  unfold trBody
  rw [sSeq_ev, s7, seq_nx, sIf_ev, tt, toS_ok]
  by_cases q : n = 0 ∨ a = 0
  · have hb : b.toNat < nm.length := by omega
    have i4 : dIx (.ref P) (.int b) H = .ok (.str nm[b.toNat]) H := by
      have := ix_ref (k := b.toNat) hP' (x := .str nm[b.toNat]) (by rw [List.getElem?_map, List.getElem?_eq_getElem hb]; rfl)
      rw [show ((b.toNat : Nat) : Int) = b by omega] at this
      exact this
    have ap := append_at (c := c) (t := [some f.D, x1, some (.ref R), some (.ref P), some (.ref h.length), some (.str x), some (.int zk), some (.lst (S.map Way.D)), x8]) (h := H) (i := 4) (L := h.length) (m := mOp dIx (mVar 3) (mOp dIx (mVar 2) (trIx 2))) (d := .str nm[b.toNat]) (xs := tr.map D.str) (ys := tr.map D.str) rfl hM (by
      unfold trIx
      simp only [mOp_ev, mVar_ev, List.getElem?_cons_succ, List.getElem?_cons_zero, bind_ok, mC_ev, ml, d2, i2, i4]) hM (by rw [List.length_map]; omega)
    refine ⟨nm[b.toNat], x, some (.lst (S.map Way.D)), x8, ?_⟩
    rw [decide_eq_true q, if_pos rfl, ap, hH, set_last, List.map_append, List.map_singleton]
  · have np : 0 < n := by omega
    have dm : dMod (.int b) (.int n) H = .ok (.int (b % n)) H := if_pos np
    have m0 := Int.emod_nonneg b (show n ≠ 0 by omega)
    have m1 := Int.emod_lt_of_pos b np
    have hk2 : (b % n).toNat < S.length := by omega
    have i5 := ix_lst (xs := S.map Way.D) (k := (b % n).toNat) (x := S[(b % n).toNat].D) (z := b % n) (by omega) H (by rw [List.getElem?_map, List.getElem?_eq_getElem hk2]; rfl)
    generalize S[(b % n).toNat] = w at i5
    have gi : gInt [.int b] H = .ok (.int b) H := rfl
    have s8 : sSet 8 (mOp dIx (mVar 7) (mOp dMod (mB gInt (aCons (mOp dIx (mVar 2) (trIx 2)) aNil)) (mB gLen (aCons (mVar 7) aNil)))) c [some f.D, x1, some (.ref R), some (.ref P), some (.ref h.length), some (.str x), some (.int zk), some (.lst (S.map Way.D)), x8] H = .nx [some f.D, x1, some (.ref R), some (.ref P), some (.ref h.length), some (.str x), some (.int zk), some (.lst (S.map Way.D)), some w.D] H := by
      unfold trIx
      rw [sSet_ev]
      simp only [mOp_ev, mVar_ev, List.getElem?_cons_succ, List.getElem?_cons_zero, bind_ok, mC_ev, mB_ev, aCons_ev, aNil_ev, ml, d2, i2, gi, gl, dm, i5, toS_ok]
      rfl
    have ap := append_at (c := c) (t := [some f.D, x1, some (.ref R), some (.ref P), some (.ref h.length), some (.str x), some (.int zk), some (.lst (S.map Way.D)), some w.D]) (h := H) (i := 4) (L := h.length) (m := mOp dIx (mVar 8) (mC (.int 0))) (d := .str w.n) (xs := tr.map D.str) (ys := tr.map D.str) rfl hM (by simp [w0]) hM (by rw [List.length_map]; omega)
    have s5 : ∀ H', sSet 5 (mOp dIx (mVar 8) (mC (.int 2))) c [some f.D, x1, some (.ref R), some (.ref P), some (.ref h.length), some (.str x), some (.int zk), some (.lst (S.map Way.D)), some w.D] H' = .nx [some f.D, x1, some (.ref R), some (.ref P), some (.ref h.length), some (.str w.t), some (.int zk), some (.lst (S.map Way.D)), some w.D] H' := fun H' => by
      simp [w2]
    refine ⟨w.n, w.t, some (.lst (S.map Way.D)), some w.D, ?_⟩
    rw [decide_eq_false q, if_neg (by decide), sSeq_ev, s8, seq_nx, sSeq_ev, ap, seq_nx, s5, hH, set_last, List.map_append, List.map_singleton]
theorem c_trip {n : Nat} (hn : 1 ≤ n) {f : Flow} (hw16 : f.ws.length ≤ 16) {u : List Nat} {h : Hd} {R P : Nat} {ds : List Int} {nm : Word} (hR : h[R]? = some (.lst (ds.map D.int))) (hP : h[P]? = some (.lst (nm.map D.str))) (hnm : nm.length = 16) (fit : Fit ds ssT) :
    ∃ tr : Word, callN T n 24 [f.D, .str u, .ref R, .ref P] h = .ok (wD tr) h ∧ tr.length ≤ 12 := by
  obtain ⟨m, rfl⟩ := lvl hn
  rw [call_at (F := ⟨4, 9, b__law_trip⟩) rfl]
  generalize callN T m = c
  have ea : ([f.D, .str u, .ref R, .ref P].map some ++ List.replicate (9 - 4) (none : Option Ev.D)) = [some f.D, some (.str u), some (.ref R), some (.ref P), none, none, none, none, none] := rfl
  rw [runFn_at (np := 4) (nn := 9) rfl ea]
  have hb : b__law_trip = sSeq (sSet 4 (mLst true aNil)) (sSeq (sSet 5 (mVar 1)) (sSeq (sFor (iRng1 (mOp dIx (mVar 2) (mC (.int 0)))) (.nm 6) trBody) (sRet (mB gTuple (aCons (mVar 4) aNil))))) := rfl
  have s4 : sSet 4 (mLst true aNil) c [some f.D, some (.str u), some (.ref R), some (.ref P), none, none, none, none, none] h = .nx [some f.D, some (.str u), some (.ref R), some (.ref P), some (.ref h.length), none, none, none, none] (h ++ [.lst []]) := by simp
  have s5 : sSet 5 (mVar 1) c [some f.D, some (.str u), some (.ref R), some (.ref P), some (.ref h.length), none, none, none, none] (h ++ [.lst []]) = .nx [some f.D, some (.str u), some (.ref R), some (.ref P), some (.ref h.length), some (.str u), none, none, none] (h ++ [.lst []]) := rfl
  obtain ⟨d0, ed0, p0, p1⟩ := fit.get (show ssT[0]? = some 13 from rfl)
  obtain ⟨N, hN⟩ : ∃ N, N = d0.toNat := ⟨_, rfl⟩
  have ei : iRng1 (mOp dIx (mVar 2) (mC (.int 0))) c [some f.D, some (.str u), some (.ref R), some (.ref P), some (.ref h.length), some (.str u), none, none, none] (h ++ [.lst []]) = .ok ⟨rngD 0 N, none⟩ (h ++ [.lst []]) := by
    have i0 := row_ix (H := h ++ [.lst []]) (L := R) (ds := ds) (by rw [List.getElem?_append_left (List.getElem?_eq_some_iff.mp hR).1]; exact hR) (z := 0) (n := 0) rfl ed0
    simp only [iRng1_ev, mOp_ev, mVar_ev, List.getElem?_cons_succ, List.getElem?_cons_zero, bind_ok, mC_ev, i0]
    rw [dRng1_ok _ (by omega) (by omega), hN]
  obtain ⟨tr, t', e, v4, ltr⟩ := sFor_gen (b := trBody) (g := .nm 6) (I := fun xs t h' => ∃ (s m : Nat) (tr : Word) (x : List Nat) (x6 x7 x8 : Option Ev.D), xs = (List.range' s m).map (fun (k : Nat) => D.int (k : Int)) ∧ s + m = N ∧ t = [some f.D, some (.str u), some (.ref R), some (.ref P), some (.ref h.length), some (.str x), x6, x7, x8] ∧ h' = h ++ [.lst (tr.map D.str)] ∧ tr.length = s)
    (O := fun y => ∃ (tr : Word) (t : Tau), y = .nx t (h ++ [.lst (tr.map D.str)]) ∧ t[4]? = some (some (.ref h.length)) ∧ tr.length ≤ 12) ei
    (by
      rintro d xs t h' ⟨s, m, tr, x, x6, x7, x8, hd, hsm, rfl, rfl, tl⟩
      cases m with
      | zero => simp at hd
      | succ m =>
        rw [List.range'_succ, List.map_cons] at hd
        obtain ⟨rfl, rfl⟩ := List.cons.inj hd
        refine ⟨trivial, [some f.D, some (.str u), some (.ref R), some (.ref P), some (.ref h.length), some (.str x), some (.int (s : Int)), x7, x8], rfl, ?_⟩
        obtain ⟨n, y, y7, y8, e⟩ := tr_turn (c := c) (h := h) (k := s) (zk := (s : Int)) (x := x) (x1 := some (.str u)) (x7 := x7) (x8 := x8) (tr := tr) hw16 rfl (by omega) hR hP hnm fit (by omega)
        rw [e]
        exact .nx ⟨s + 1, m, tr ++ [n], y, _, y7, y8, rfl, by omega, rfl, rfl, by rw [List.length_append, tl]; rfl⟩)
    (by
      rintro t h' ⟨s, m, tr, x, x6, x7, x8, hd, hsm, rfl, rfl, tl⟩
      cases m with
      | succ m => simp [List.range'_succ] at hd
      | zero => exact ⟨trivial, tr, _, rfl, rfl, by omega⟩)
    ⟨0, N, [], u, none, none, none, by rw [rngD_eq, List.range_eq_range'], by omega, rfl, rfl, rfl⟩
  refine ⟨tr, ?_, ltr⟩
  have gt : gTuple [.ref h.length] (h ++ [.lst (tr.map D.str)]) = .ok (wD tr) (h ++ [.lst (tr.map D.str)]) := by simp [gTuple, seqOf, D.see]
  rw [hb, sSeq_ev, s4, seq_nx, sSeq_ev, s5, seq_nx, sSeq_ev, e, seq_nx]
  simp only [sRet_ev, mB_ev, aCons_ev, mVar_ev, v4, bind_ok, aNil_ev, gt, toS_ok, fin_rt]
  exact fin1_app (lo_words _ (some tr))
end K04

namespace K04
open PySem L2 Ev
theorem get_app {h l : Hd} {p : Nat} {x : O} (e : h[p]? = some x) : (h ++ l)[p]? = some x := by
  rw [List.getElem?_append_left (List.getElem?_eq_some_iff.mp e).1]; exact e
theorem lo_so (n : Nat) (x : Option (List Nat)) : (soD x).lo n := by cases x <;> simp [soD]
theorem gd_so (x : Option (List Nat)) : gd (soD x) = true := by cases x <;> rfl
theorem dep_so (x : Option (List Nat)) : (soD x).dep ≤ 1 := by cases x <;> simp [soD, D.dep]
noncomputable abbrev lwBody : MS := (sIf (tOr (tNot (tVal (mCall 28 (aCons (mVar 4) (aCons (mVar 9) aNil))))) (tNot (tVal (mCall 29 (aCons (mVar 4) (aCons (mVar 6) (aCons (mVar 9) (aCons (mVar 7) aNil))))))))
  (sRet (mC (.bl false)))
  sNil)
theorem lw_loop {c : Calls} {H : Hd} {st : Word} {F u z : Ev.D} {x0 x1 x2 x3 x5 x8 : Option Ev.D} (ix : dIx F (.int 0) H = .ok (.tup (st.map D.str)) H) (e1 : ∀ x ∈ st, c 28 [F, .str x] H = .ok (.bl true) H) (e2 : ∀ x ∈ st, c 29 [F, u, .str x, z] H = .ok (.bl true) H) :
    ∃ y9, sFor (iVal (mOp dIx (mVar 4) (mC (.int 0)))) (.nm 9) lwBody c [x0, x1, x2, x3, some F, x5, some u, some z, x8, none, none] H = .nx [x0, x1, x2, x3, some F, x5, some u, some z, x8, y9, none] H := by
  have ei : iVal (mOp dIx (mVar 4) (mC (.int 0))) c [x0, x1, x2, x3, some F, x5, some u, some z, x8, none, none] H = .ok ⟨st.map D.str, none⟩ H := by
    simp [ix, dIter]
  refine sFor_gen (b := lwBody) (g := .nm 9) (I := fun ds t h' => ∃ (todo : Word) (x9 : Option Ev.D), ds = todo.map D.str ∧ (∀ x ∈ todo, x ∈ st) ∧ t = [x0, x1, x2, x3, some F, x5, some u, some z, x8, x9, none] ∧ h' = H)
    (O := fun y => ∃ y9, y = .nx [x0, x1, x2, x3, some F, x5, some u, some z, x8, y9, none] H) ei ?_ ?_ ?_
  · rintro d ds t h' ⟨todo, x9, hd, hs, rfl, rfl⟩
    cases todo with
    | nil => simp at hd
    | cons x todo =>
      rw [List.map_cons] at hd
      obtain ⟨rfl, rfl⟩ := List.cons.inj hd
      refine ⟨trivial, [x0, x1, x2, x3, some F, x5, some u, some z, x8, some (.str x), none], rfl, ?_⟩
      have a1 := e1 x (hs x (List.mem_cons_self ..))
      have a2 := e2 x (hs x (List.mem_cons_self ..))
      have : lwBody c [x0, x1, x2, x3, some F, x5, some u, some z, x8, some (.str x), none] h' = .nx [x0, x1, x2, x3, some F, x5, some u, some z, x8, some (.str x), none] h' := by
        simp [a1, a2, dTrue, D.see]
      rw [this]
      exact .nx ⟨todo, _, rfl, fun y hy => hs y (List.mem_cons_of_mem _ hy), rfl, rfl⟩
  · rintro t h' ⟨todo, x9, hd, hs, rfl, rfl⟩
    exact ⟨trivial, x9, rfl⟩
  · exact ⟨st, none, rfl, fun x hx => hx, rfl, rfl⟩
theorem law_at (ns : List Int) (hl : ns.length ≤ 63) (N : Nat) (hN : 20 ≤ N) : ∃ h', runFn ⟨1, 11, b_law⟩ (callN T N) [.scr (ns.map D.int)] [] = .ok (.bl true) h' := by
  obtain ⟨z1, ec1⟩ := c_cell (n := N) (by omega) ns hl 1 (by decide) (by decide) []
  obtain ⟨S, l1, p1, e1, g1, lS, ndS, neS⟩ := c_names (n := N) (by omega) z1 (N := 10) (by omega) (z := 10) rfl []
  obtain ⟨H1, hH1⟩ : ∃ H1 : Hd, H1 = [] ++ l1 := ⟨_, rfl⟩
  rw [← hH1] at e1 g1
  obtain ⟨z2, ec2⟩ := c_cell (n := N) (by omega) ns hl 2 (by decide) (by decide) H1
  obtain ⟨nm, l2, p2, e2, g2, lnm, _, _⟩ := c_names (n := N) (by omega) z2 (N := 16) (by omega) (z := 16) rfl H1
  have g1' := get_app (l := l2) g1
  obtain ⟨H2, hH2⟩ : ∃ H2 : Hd, H2 = H1 ++ l2 := ⟨_, rfl⟩
  rw [← hH2] at e2 g2 g1'
  obtain ⟨z3, ec3⟩ := c_cell (n := N) (by omega) ns hl 3 (by decide) (by decide) H2
  obtain ⟨R3, l3, p3, e3, g3, lR, _, _⟩ := c_names (n := N) (by omega) z3 (N := 3) (by omega) (z := 3) rfl H2
  have g1'' := get_app (l := l3) g1'
  have g2' := get_app (l := l3) g2
  obtain ⟨H3, hH3⟩ : ∃ H3 : Hd, H3 = H2 ++ l3 := ⟨_, rfl⟩
  rw [← hH3] at e3 g3 g1'' g2'
  obtain ⟨z4, ec4⟩ := c_cell (n := N) (by omega) ns hl 4 (by decide) (by decide) H3
  obtain ⟨f, e4, o, h0, uq, sub, stne⟩ := c_flow (n := N) (by omega) z4 (S := S.take 8) (nm := nm) (rs := [] :: R3) (by rw [List.length_take]; omega) (ndS.sublist (List.take_sublist _ _)) (fun x hx => neS x (List.mem_of_mem_take hx)) lnm (by rw [List.length_cons, lR]) g2'
  obtain ⟨z0, ec0⟩ := c_cell (n := N) (by omega) ns hl 0 (by decide) (by decide) H3
  obtain ⟨ds, e5, fit⟩ := c_digits (n := N) (by omega) z0 [8, 34, 12] (by decide) (by decide) H3
  have g5 := get_last H3 (.lst (ds.map D.int))
  have g1q := get_app (l := [.lst (ds.map D.int)]) g1''
  have g2q := get_app (l := [.lst (ds.map D.int)]) g2'
  obtain ⟨H4, hH4⟩ : ∃ H4 : Hd, H4 = H3 ++ [.lst (ds.map D.int)] := ⟨_, rfl⟩
  rw [← hH4] at e5 g5 g1q g2q
  obtain ⟨d0, ed0, p00, p01⟩ := fit.get (show ([8, 34, 12] : List Int)[0]? = some 8 from rfl)
  obtain ⟨d1, ed1, _, _⟩ := fit.get (show ([8, 34, 12] : List Int)[1]? = some 34 from rfl)
  obtain ⟨d2, ed2, _, _⟩ := fit.get (show ([8, 34, 12] : List Int)[2]? = some 12 from rfl)
  -- the source
  obtain ⟨n, hn⟩ : ∃ n : Int, n = (f.st.length : Nat) := ⟨_, rfl⟩
  have npos : 0 < n := by
    have := List.length_pos_iff.mpr stne
    omega
  have m0 := Int.emod_nonneg d0 (show n ≠ 0 by omega)
  have m1 := Int.emod_lt_of_pos d0 npos
  have hk : (d0 % n).toNat < f.st.length := by omega
  obtain ⟨u, hu⟩ : ∃ u, u = f.st[(d0 % n).toNat] := ⟨_, rfl⟩
  have mu : u ∈ f.st := by rw [hu]; exact List.getElem_mem hk
  -- the length
  obtain ⟨z, hz⟩ : ∃ z : Int, z = if d2 = 0 then 100000000000000000000 else d1 - 2 := ⟨_, rfl⟩
  -- the dead
  have s8 := o.s8
  have es := fun (x : List Nat) (hx : x ∈ f.st) => c_saved2 (n := N) (by omega) o hx [] H4
  have cd := c_dead (n := N) (by omega) o H4
  obtain ⟨dd, hdd⟩ : ∃ dd : Word, dd = f.st.filter fun s => !sv f none s := ⟨_, rfl⟩
  rw [← hdd] at cd
  have ld : dd.length ≤ 1000 := by rw [hdd]; have := List.length_filter_le (fun s => !sv f none s) f.st; omega
  have al7 := c_alike N (.tup (dd.map D.str)) H4 (gd_strs ld) (by have := dep_tup dd; omega)
  have cst := fun (x : List Nat) (hx : x ∈ f.st) => c_state (n := N) (by omega) o h0 hx H4
  have cpr := fun (x : List Nat) (hx : x ∈ f.st) => c_pair (n := N) (by omega) o uq mu hx z H4
  -- the trip
  obtain ⟨z5, ec5⟩ := c_cell (n := N) (by omega) ns hl 5 (by decide) (by decide) H4
  obtain ⟨ds5, e55, fit5⟩ := c_digits (n := N) (by omega) z5 ssT ssT_ok.1 ssT_ok.2 H4
  have g5' := get_last H4 (.lst (ds5.map D.int))
  have g1z := get_app (l := [.lst (ds5.map D.int)]) g1q
  have g2z := get_app (l := [.lst (ds5.map D.int)]) g2q
  obtain ⟨H5, hH5⟩ : ∃ H5 : Hd, H5 = H4 ++ [.lst (ds5.map D.int)] := ⟨_, rfl⟩
  rw [← hH5] at e55 g5' g1z g2z
  obtain ⟨tr, e24, ltr⟩ := c_trip (n := N) (by omega) (f := f) o.w16 (u := u) g5' g2z lnm fit5
  have t27 : callN T N 27 [.int 5, f.D, .str u, .str [], wD tr] H5 = .ok (.tup [.str wAns, soD (along f u tr)]) H5 := by
    obtain ⟨M, rfl⟩ : ∃ M, N = M + 2 := ⟨N - 2, by omega⟩
    exact told_ans (asked (w := 5) (a3 := .str []) (a4 := wD tr) (.inr (.inr (.inr (.inr (.inr ⟨rfl, rfl, rfl⟩))))) (c_along (n := M) (by omega) o mu tr H5) (lo_so _ _)) (lo_so _ _)
  have e25 := c_lalong (n := N) (by omega) o u tr H5
  have q27 := alikeA (n := N) (by omega) wAns (gd_so (along f u tr)) (dep_so _) H5
  -- the strangers
  have l8 : 8 < S.length := by omega
  have l9 : 9 < S.length := by omega
  have notin : ∀ (j : Nat) (hj : j < S.length), 8 ≤ j → S[j] ∉ f.st := fun j hj h8 hm => by
    have := sub _ hm
    obtain ⟨i, hi, ei⟩ := List.mem_iff_getElem.mp this
    rw [List.length_take] at hi
    rw [List.getElem_take] at ei
    exact (List.pairwise_iff_getElem.mp ndS) i j (by omega) hj (by omega) ei
  have str := c_strangers (n := N) (by omega) f mu (notin 8 l8 (by omega)) (notin 9 l9 (by omega)) z (wD tr) H5
  have i8 : dIx (.ref p1) (.int 8) H5 = .ok (.str S[8]) H5 := ix_ref (k := 8) g1z (by rw [List.getElem?_map, List.getElem?_eq_getElem l8]; rfl)
  have i9 : dIx (.ref p1) (.int 9) H5 = .ok (.str S[9]) H5 := ix_ref (k := 9) g1z (by rw [List.getElem?_map, List.getElem?_eq_getElem l9]; rfl)
  generalize S[8] = w8 at *
  generalize S[9] = w9 at *
  have cut8 : dCut false (.ref p1) none (some 8) H3 = .ok (.lst ((S.take 8).map D.str)) H3 := by
    have se : D.see H3 (.ref p1) = .lst (S.map D.str) := by simp [D.see, g1'']
    unfold dCut
    simp only [se]
    rw [cutL_map, cutL_take S (by omega), freshF _ (by rw [List.length_map, List.length_take]; omega)]
    rfl
  have add3 : dAdd false (.lst [.str []]) (.ref p3) H3 = .ok (.lst (([] :: R3).map D.str)) H3 := by
    have : dAdd false (.lst [.str []]) (.ref p3) H3 = fresh false ([D.str []] ++ R3.map D.str) H3 := by simp [dAdd, D.items?, g3]
    rw [this, freshF _ (by simp; omega)]
    rfl
  have fl0 := fun h => f0 f h
  have e15a : callN T N 15 [.int z0, .lst [.int 8, .int 34, .int 12]] H3 = .ok (.ref H3.length) H4 := e5
  generalize callN T N = c at *
  have ea : ([D.scr (ns.map D.int)].map some ++ List.replicate (11 - 1) (none : Option Ev.D)) = [some (.scr (ns.map D.int)), none, none, none, none, none, none, none, none, none, none] := rfl
  refine ⟨[], ?_⟩
  rw [runFn_at (np := 1) (nn := 11) rfl ea]
  generalize D.scr (ns.map D.int) = sc at *
  have k1 : sSet 1 (mCall 16 (aCons (mCall 14 (aCons (mVar 0) (aCons (mC (.int 1)) aNil))) (aCons (mC (.int 10)) aNil))) c [some sc, none, none, none, none, none, none, none, none, none, none] [] = .nx [some sc, some (.ref p1), none, none, none, none, none, none, none, none, none] H1 := by
    simp [ec1, e1]
  have k2 : sSet 2 (mCall 16 (aCons (mCall 14 (aCons (mVar 0) (aCons (mC (.int 2)) aNil))) (aCons (mC (.int 16)) aNil))) c [some sc, some (.ref p1), none, none, none, none, none, none, none, none, none] H1 = .nx [some sc, some (.ref p1), some (.ref p2), none, none, none, none, none, none, none, none] H2 := by
    simp [ec2, e2]
  generalize hrs : ([] :: R3).map D.str = rs at *
  have k3 : sSet 3 (mOp (dAdd false) (mLst false (aCons (mC (.str [])) aNil)) (mCall 16 (aCons (mCall 14 (aCons (mVar 0) (aCons (mC (.int 3)) aNil))) (aCons (mC (.int 3)) aNil)))) c [some sc, some (.ref p1), some (.ref p2), none, none, none, none, none, none, none, none] H2 = .nx [some sc, some (.ref p1), some (.ref p2), some (.lst rs), none, none, none, none, none, none, none] H3 := by
    have f1 : fresh false [D.str []] H2 = .ok (.lst [D.str []]) H2 := freshF _ (by simp)
    simp only [sSet_ev, mOp_ev, mLst_ev, aCons_ev, mC_ev, bind_ok, aNil_ev, f1, mCall_ev, mVar_ev, List.getElem?_cons_succ, List.getElem?_cons_zero, ec3, e3, add3, toS_ok]
    rfl
  generalize (S.take 8).map D.str = s8D at *
  have k4 : sSet 4 (mCall 17 (aCons (mCall 14 (aCons (mVar 0) (aCons (mC (.int 4)) aNil))) (aCons (mCut false (mVar 1) pNo (pYes (mC (.int 8)))) (aCons (mVar 2) (aCons (mVar 3) aNil))))) c [some sc, some (.ref p1), some (.ref p2), some (.lst rs), none, none, none, none, none, none, none] H3 = .nx [some sc, some (.ref p1), some (.ref p2), some (.lst rs), some f.D, none, none, none, none, none, none] H3 := by
    simp only [sSet_ev, mCall_ev, aCons_ev, mVar_ev, List.getElem?_cons_succ, List.getElem?_cons_zero, mC_ev, bind_ok, aNil_ev, ec4, mCut_ev, pNo_ev, pYes_ev, dPart_ev, cut8, e4, toS_ok]
    rfl
  have k5 : sSet 5 (mCall 15 (aCons (mCall 14 (aCons (mVar 0) (aCons (mC (.int 0)) aNil))) (aCons (mLst false (aCons (mC (.int 8)) (aCons (mC (.int 34)) (aCons (mC (.int 12)) aNil)))) aNil))) c [some sc, some (.ref p1), some (.ref p2), some (.lst rs), some f.D, none, none, none, none, none, none] H3 = .nx [some sc, some (.ref p1), some (.ref p2), some (.lst rs), some f.D, some (.ref H3.length), none, none, none, none, none] H4 := by
    have f1 : fresh false [D.int 8, .int 34, .int 12] H3 = .ok (.lst [D.int 8, .int 34, .int 12]) H3 := freshF _ (by simp)
    simp only [sSet_ev, mCall_ev, aCons_ev, mVar_ev, List.getElem?_cons_succ, List.getElem?_cons_zero, mC_ev, bind_ok, aNil_ev, ec0, mLst_ev, f1, e15a, toS_ok]
    rfl
  have r0 := row_ix g5 (z := 0) (n := 0) rfl ed0
  have r1 := row_ix g5 (z := 1) (n := 1) rfl ed1
  have r2 := row_ix g5 (z := 2) (n := 2) rfl ed2
  have glF : gLen [.tup (f.st.map D.str)] H4 = .ok (.int n) H4 := by rw [hn]; simp [gLen, D.dict?, D.see]
  have dmF : dMod (.int d0) (.int n) H4 = .ok (.int (d0 % n)) H4 := if_pos npos
  have giF : gInt [.int d0] H4 = .ok (.int d0) H4 := rfl
  have ixu : dIx (.tup (f.st.map D.str)) (.int (d0 % n)) H4 = .ok (.str u) H4 := by
    have := dIx_tup (xs := f.st.map D.str) (k := (d0 % n).toNat) (x := .str u) H4 (by rw [List.getElem?_map, List.getElem?_eq_getElem hk, hu]; rfl)
    rw [show (((d0 % n).toNat : Nat) : Int) = d0 % n by omega] at this
    exact this
  have k6 : sSet 6 (mOp dIx (mOp dIx (mVar 4) (mC (.int 0))) (mOp dMod (mB gInt (aCons (mOp dIx (mVar 5) (mC (.int 0))) aNil)) (mB gLen (aCons (mOp dIx (mVar 4) (mC (.int 0))) aNil)))) c [some sc, some (.ref p1), some (.ref p2), some (.lst rs), some f.D, some (.ref H3.length), none, none, none, none, none] H4 = .nx [some sc, some (.ref p1), some (.ref p2), some (.lst rs), some f.D, some (.ref H3.length), some (.str u), none, none, none, none] H4 := by
    simp only [sSet_ev, mOp_ev, mVar_ev, List.getElem?_cons_succ, List.getElem?_cons_zero, mC_ev, bind_ok, fl0, mB_ev, aCons_ev, aNil_ev, r0, giF, glF, dmF, ixu, toS_ok]
    rfl
  have k7 : sSet 7 (mOp dSub (mOp dIx (mVar 5) (mC (.int 1))) (mC (.int 2))) c [some sc, some (.ref p1), some (.ref p2), some (.lst rs), some f.D, some (.ref H3.length), some (.str u), none, none, none, none] H4 = .nx [some sc, some (.ref p1), some (.ref p2), some (.lst rs), some f.D, some (.ref H3.length), some (.str u), some (.int (d1 - 2)), none, none, none] H4 := by
    simp only [sSet_ev, mOp_ev, mVar_ev, List.getElem?_cons_succ, List.getElem?_cons_zero, mC_ev, bind_ok, r1]
    rfl
  have k7' : sIf (tCmp (mOp (dEq false) (mOp dIx (mVar 5) (mC (.int 2))) (mC (.int 0)))) (sSet 7 (mOp dPow (mC (.int 10)) (mC (.int 20)))) sNil c [some sc, some (.ref p1), some (.ref p2), some (.lst rs), some f.D, some (.ref H3.length), some (.str u), some (.int (d1 - 2)), none, none, none] H4 = .nx [some sc, some (.ref p1), some (.ref p2), some (.lst rs), some f.D, some (.ref H3.length), some (.str u), some (.int z), none, none, none] H4 := by
    have tt : tCmp (mOp (dEq false) (mOp dIx (mVar 5) (mC (.int 2))) (mC (.int 0))) c [some sc, some (.ref p1), some (.ref p2), some (.lst rs), some f.D, some (.ref H3.length), some (.str u), some (.int (d1 - 2)), none, none, none] H4 = .ok (decide (d2 = 0)) H4 := by
      simp only [tCmp_ev, mOp_ev, mVar_ev, List.getElem?_cons_succ, List.getElem?_cons_zero, mC_ev, bind_ok, r2, eq_i, dBl_ev]
    rw [sIf_ev, tt, toS_ok]
    by_cases q : d2 = 0
    · rw [if_pos q] at hz
      have pw : dPow (.int 10) (.int 20) H4 = .ok (.int 100000000000000000000) H4 := by simp [dPow]
      rw [decide_eq_true q, if_pos rfl, hz]
      simp only [sSet_ev, mOp_ev, mC_ev, bind_ok, pw, toS_ok]
      rfl
    · rw [if_neg q] at hz
      rw [decide_eq_false q, if_neg (by decide), hz]
      rfl
  clear hz
  have em8 := comp_states (c := c) (t := [some sc, some (.ref p1), some (.ref p2), some (.lst rs), some f.D, some (.ref H3.length), some (.str u), some (.int z), none, none, none]) (h := H4) (i := 9) (it := iVal (mOp dIx (mVar 4) (mC (.int 0)))) (K := tNot (tVal (mCall 20 (aCons (mVar 4) (aCons (mVar 9) (aCons (mC (.str [])) aNil)))))) (l := f.st) (by simp [fl0, dIter]) (by simp) (fun s => !sv f none s) (by omega) (fun x hx => by
    have := es x hx
    rw [sv_none o] at this
    simp [wipeT, this, dTrue, D.see])
  rw [← hdd] at em8
  have k8 : sSet 8 (mB gTuple (aCons (mComp false (iVal (mOp dIx (mVar 4) (mC (.int 0)))) (.nm 9) [9] (tNot (tVal (mCall 20 (aCons (mVar 4) (aCons (mVar 9) (aCons (mC (.str [])) aNil)))))) (mVar 9)) aNil)) c [some sc, some (.ref p1), some (.ref p2), some (.lst rs), some f.D, some (.ref H3.length), some (.str u), some (.int z), none, none, none] H4 = .nx [some sc, some (.ref p1), some (.ref p2), some (.lst rs), some f.D, some (.ref H3.length), some (.str u), some (.int z), some (.tup (dd.map D.str)), none, none] H4 := by
    rw [sSet_ev, mB_ev, aCons_ev, em8]
    simp only [bind_ok, aNil_ev, tup_of, toS_ok]
    rfl
  have k9 := chk (c := c) (t := [some sc, some (.ref p1), some (.ref p2), some (.lst rs), some f.D, some (.ref H3.length), some (.str u), some (.int z), some (.tup (dd.map D.str)), none, none]) (h := H4) (a := mCall 7 (aCons (mVar 4) aNil)) (b := mVar 8) (by simp [cd]) rfl al7
  obtain ⟨y9, k10⟩ := lw_loop (c := c) (H := H4) (st := f.st) (F := f.D) (u := .str u) (z := .int z) (x0 := some sc) (x1 := some (.ref p1)) (x2 := some (.ref p2)) (x3 := some (.lst rs)) (x5 := some (.ref H3.length)) (x8 := some (.tup (dd.map D.str))) (fl0 H4) cst cpr
  generalize D.tup (dd.map D.str) = dT at *
  have sz := tr_sz (c := c) (t := [some sc, some (.ref p1), some (.ref p2), some (.lst rs), some f.D, some (.ref H3.length), some (.str u), some (.int z), some dT, y9, none]) (H := H4)
  have k11 : sSet 10 (mCall 24 (aCons (mVar 4) (aCons (mVar 6) (aCons (mCall 15 (aCons (mCall 14 (aCons (mVar 0) (aCons (mC (.int 5)) aNil))) (aCons trSz aNil))) (aCons (mVar 2) aNil))))) c [some sc, some (.ref p1), some (.ref p2), some (.lst rs), some f.D, some (.ref H3.length), some (.str u), some (.int z), some dT, y9, none] H4 = .nx [some sc, some (.ref p1), some (.ref p2), some (.lst rs), some f.D, some (.ref H3.length), some (.str u), some (.int z), some dT, y9, some (wD tr)] H5 := by
    have a15 : mCall 15 (aCons (mCall 14 (aCons (mVar 0) (aCons (mC (.int 5)) aNil))) (aCons trSz aNil)) c [some sc, some (.ref p1), some (.ref p2), some (.lst rs), some f.D, some (.ref H3.length), some (.str u), some (.int z), some dT, y9, none] H4 = .ok (.ref H4.length) H5 := by
      rw [mCall_ev, aCons_ev, mCall_ev]
      simp only [aCons_ev, mVar_ev, List.getElem?_cons_succ, List.getElem?_cons_zero, mC_ev, bind_ok, aNil_ev, ec5]
      rw [sz]
      simp only [bind_ok, e55]
    rw [sSet_ev, mCall_ev, aCons_ev]
    simp only [aCons_ev, mVar_ev, List.getElem?_cons_succ, List.getElem?_cons_zero, bind_ok]
    rw [a15]
    simp only [aNil_ev, bind_ok, e24, toS_ok]
    rfl
  have k12 := chk (c := c) (t := [some sc, some (.ref p1), some (.ref p2), some (.lst rs), some f.D, some (.ref H3.length), some (.str u), some (.int z), some dT, y9, some (wD tr)]) (h := H5) (a := mCall 27 (aCons (mC (.int 5)) (aCons (mVar 4) (aCons (mVar 6) (aCons (mC (.str [])) (aCons (mVar 10) aNil)))))) (b := mTup (aCons (mC (.str wAns)) (aCons (mCall 25 (aCons (mVar 4) (aCons (mVar 6) (aCons (mVar 10) aNil)))) aNil))) (by
    simp only [mCall_ev, aCons_ev, mC_ev, mVar_ev, List.getElem?_cons_succ, List.getElem?_cons_zero, bind_ok, aNil_ev, t27]) (by
    have ft : freshT [D.str wAns, soD (along f u tr)] H5 = .ok (.tup [.str wAns, soD (along f u tr)]) H5 := freshT_ev _ (by simp)
    simp only [mTup_ev, mCall_ev, aCons_ev, mC_ev, mVar_ev, List.getElem?_cons_succ, List.getElem?_cons_zero, bind_ok, aNil_ev, e25, ft]) q27
  have k13 : sRet (mCall 30 (aCons (mVar 4) (aCons (mVar 6) (aCons (mOp dIx (mVar 1) (mC (.int 8))) (aCons (mOp dIx (mVar 1) (mC (.int 9))) (aCons (mVar 7) (aCons (mVar 10) aNil))))))) c [some sc, some (.ref p1), some (.ref p2), some (.lst rs), some f.D, some (.ref H3.length), some (.str u), some (.int z), some dT, y9, some (wD tr)] H5 = .rt (.bl true) H5 := by
    simp only [sRet_ev, mCall_ev, aCons_ev, mOp_ev, mC_ev, mVar_ev, List.getElem?_cons_succ, List.getElem?_cons_zero, bind_ok, aNil_ev, i8, i9, str, toS_ok]
  have hb : b_law = sSeq (sSet 1 (mCall 16 (aCons (mCall 14 (aCons (mVar 0) (aCons (mC (.int 1)) aNil))) (aCons (mC (.int 10)) aNil))))
    (sSeq (sSet 2 (mCall 16 (aCons (mCall 14 (aCons (mVar 0) (aCons (mC (.int 2)) aNil))) (aCons (mC (.int 16)) aNil))))
    (sSeq (sSet 3 (mOp (dAdd false) (mLst false (aCons (mC (.str [])) aNil)) (mCall 16 (aCons (mCall 14 (aCons (mVar 0) (aCons (mC (.int 3)) aNil))) (aCons (mC (.int 3)) aNil)))))
    (sSeq (sSet 4 (mCall 17 (aCons (mCall 14 (aCons (mVar 0) (aCons (mC (.int 4)) aNil))) (aCons (mCut false (mVar 1) pNo (pYes (mC (.int 8)))) (aCons (mVar 2) (aCons (mVar 3) aNil))))))
    (sSeq (sSet 5 (mCall 15 (aCons (mCall 14 (aCons (mVar 0) (aCons (mC (.int 0)) aNil))) (aCons (mLst false (aCons (mC (.int 8)) (aCons (mC (.int 34)) (aCons (mC (.int 12)) aNil)))) aNil))))
    (sSeq (sSet 6 (mOp dIx (mOp dIx (mVar 4) (mC (.int 0))) (mOp dMod (mB gInt (aCons (mOp dIx (mVar 5) (mC (.int 0))) aNil)) (mB gLen (aCons (mOp dIx (mVar 4) (mC (.int 0))) aNil)))))
    (sSeq (sSet 7 (mOp dSub (mOp dIx (mVar 5) (mC (.int 1))) (mC (.int 2))))
    (sSeq (sIf (tCmp (mOp (dEq false) (mOp dIx (mVar 5) (mC (.int 2))) (mC (.int 0)))) (sSet 7 (mOp dPow (mC (.int 10)) (mC (.int 20)))) sNil)
    (sSeq (sSet 8 (mB gTuple (aCons (mComp false (iVal (mOp dIx (mVar 4) (mC (.int 0)))) (.nm 9) [9] (tNot (tVal (mCall 20 (aCons (mVar 4) (aCons (mVar 9) (aCons (mC (.str [])) aNil)))))) (mVar 9)) aNil)))
    (sSeq (chkM (mCall 7 (aCons (mVar 4) aNil)) (mVar 8))
    (sSeq (sFor (iVal (mOp dIx (mVar 4) (mC (.int 0)))) (.nm 9) lwBody)
    (sSeq (sSet 10 (mCall 24 (aCons (mVar 4) (aCons (mVar 6) (aCons (mCall 15 (aCons (mCall 14 (aCons (mVar 0) (aCons (mC (.int 5)) aNil))) (aCons trSz aNil))) (aCons (mVar 2) aNil))))))
    (sSeq (chkM (mCall 27 (aCons (mC (.int 5)) (aCons (mVar 4) (aCons (mVar 6) (aCons (mC (.str [])) (aCons (mVar 10) aNil)))))) (mTup (aCons (mC (.str wAns)) (aCons (mCall 25 (aCons (mVar 4) (aCons (mVar 6) (aCons (mVar 10) aNil)))) aNil))))
    (sRet (mCall 30 (aCons (mVar 4) (aCons (mVar 6) (aCons (mOp dIx (mVar 1) (mC (.int 8))) (aCons (mOp dIx (mVar 1) (mC (.int 9))) (aCons (mVar 7) (aCons (mVar 10) aNil)))))))))))))))))))) := rfl
  rw [hb, sSeq_ev, k1, seq_nx, sSeq_ev, k2, seq_nx, sSeq_ev, k3, seq_nx, sSeq_ev, k4, seq_nx, sSeq_ev, k5, seq_nx, sSeq_ev, k6, seq_nx, sSeq_ev, k7, seq_nx, sSeq_ev, k7', seq_nx, sSeq_ev, k8, seq_nx, sSeq_ev, k9, seq_nx, sSeq_ev, k10, seq_nx, sSeq_ev, k11, seq_nx, sSeq_ev, k12, seq_nx, k13, fin_rt]
  exact fin1_app (h := []) (lo_bl 0 true)
theorem law_true (ns : List Int) (hl : ns.length ≤ 63) : ∃ h', runFn ⟨1, 11, b_law⟩ (callN (tab.map (·.2.2)) 99) [.scr (ns.map D.int)] [] = .ok (.bl true) h' := law_at ns hl 99 (by decide)
end K04

namespace K04
open PySem PySem.Spec PyProof.Rows L2 PySem.Calls Ev
open PySem.W (Frag)
section
variable {P : Program} {w : World} {K : Frag} {mg : Str → Option Value} {base : Heap} {CL : List XC}
theorem row_is_whole (G : Good P w K mg CL) {f : Addr} {fd : FuncData} (Fn : Fun K "is_whole" "is_whole" (top 8) f fd) (hm : mg "is_whole" = some (.ref f)) (hb : Binds K fd [("value" : Str)] []) : RowOk P w K mg base CL tab 23 (("is_whole" : Str), [("value" : Str)], ⟨1, 1, b_is_whole⟩) :=
  ⟨f, fd, top 8, N_is_whole, Fn, hm, hb, ⟨rfl, rfl, rfl, by decide +kernel, rfl, by decide +kernel, by decide +kernel⟩, rfl, rfl, fun c k hk ok cdv A outer s H E hr => d_is_whole G hk ok hr⟩
theorem row_is_between (G : Good P w K mg CL) {f : Addr} {fd : FuncData} (Fn : Fun K "is_between" "is_between" (top 9) f fd) (hm : mg "is_between" = some (.ref f)) (hb : Binds K fd [("value" : Str), ("low" : Str), ("high" : Str)] []) : RowOk P w K mg base CL tab 23 (("is_between" : Str), [("value" : Str), ("low" : Str), ("high" : Str)], ⟨3, 3, b_is_between⟩) :=
  ⟨f, fd, top 9, N_is_between, Fn, hm, hb, ⟨rfl, rfl, rfl, by decide +kernel, rfl, by decide +kernel, by decide +kernel⟩, rfl, rfl, fun c k hk ok cdv A outer s H E hr => d_is_between G hk ok hr⟩
theorem row_require_state (G : Good P w K mg CL) {f : Addr} {fd : FuncData} (Fn : Fun K "require_state" "require_state" (top 11) f fd) (hm : mg "require_state" = some (.ref f)) (hb : Binds K fd [("flow" : Str), ("state" : Str)] []) : RowOk P w K mg base CL tab 23 (("require_state" : Str), [("flow" : Str), ("state" : Str)], ⟨2, 2, b_require_state⟩) :=
  ⟨f, fd, top 11, N_require_state, Fn, hm, hb, ⟨rfl, rfl, rfl, by decide +kernel, rfl, by decide +kernel, by decide +kernel⟩, rfl, rfl, fun c k hk ok cdv A outer s H E hr => d_require_state G hk ok hr⟩
theorem row_ways_from (G : Good P w K mg CL) {f : Addr} {fd : FuncData} (Fn : Fun K "ways_from" "ways_from" (top 12) f fd) (hm : mg "ways_from" = some (.ref f)) (hb : Binds K fd [("flow" : Str), ("state" : Str)] []) : RowOk P w K mg base CL tab 23 (("ways_from" : Str), [("flow" : Str), ("state" : Str)], ⟨2, 3, b_ways_from⟩) :=
  ⟨f, fd, top 12, N_ways_from, Fn, hm, hb, ⟨rfl, rfl, rfl, by decide +kernel, rfl, by decide +kernel, by decide +kernel⟩, rfl, rfl, fun c k hk ok cdv A outer s H E hr => d_ways_from G hk ok hr⟩
theorem row_find_way (G : Good P w K mg CL) {f : Addr} {fd : FuncData} (Fn : Fun K "find_way" "find_way" (top 13) f fd) (hm : mg "find_way" = some (.ref f)) (hb : Binds K fd [("flow" : Str), ("state" : Str), ("name" : Str)] []) : RowOk P w K mg base CL tab 23 (("find_way" : Str), [("flow" : Str), ("state" : Str), ("name" : Str)], ⟨3, 4, b_find_way⟩) :=
  ⟨f, fd, top 13, N_find_way, Fn, hm, hb, ⟨rfl, rfl, rfl, by decide +kernel, rfl, by decide +kernel, by decide +kernel⟩, rfl, rfl, fun c k hk ok cdv A outer s H E hr => d_find_way G hk ok hr⟩
theorem row_reachable (G : Good P w K mg CL) {f : Addr} {fd : FuncData} (Fn : Fun K "reachable" "reachable" (top 15) f fd) (hm : mg "reachable" = some (.ref f)) (hb : Binds K fd [("flow" : Str), ("state" : Str)] []) : RowOk P w K mg base CL tab 23 (("reachable" : Str), [("flow" : Str), ("state" : Str)], ⟨2, 7, b_reachable⟩) :=
  ⟨f, fd, top 15, N_reachable, Fn, hm, hb, ⟨rfl, rfl, rfl, by decide +kernel, rfl, by decide +kernel, by decide +kernel⟩, rfl, rfl, fun c k hk ok cdv A outer s H E hr => d_reachable G hk ok hr⟩
theorem row_reaches_closed (G : Good P w K mg CL) {f : Addr} {fd : FuncData} (Fn : Fun K "reaches_closed" "reaches_closed" (top 16) f fd) (hm : mg "reaches_closed" = some (.ref f)) (hb : Binds K fd [("flow" : Str), ("state" : Str), ("avoided" : Str)] []) : RowOk P w K mg base CL tab 23 (("reaches_closed" : Str), [("flow" : Str), ("state" : Str), ("avoided" : Str)], ⟨3, 7, b_reaches_closed⟩) :=
  ⟨f, fd, top 16, N_reaches_closed, Fn, hm, hb, ⟨rfl, rfl, rfl, by decide +kernel, rfl, by decide +kernel, by decide +kernel⟩, rfl, rfl, fun c k hk ok cdv A outer s H E hr => d_reaches_closed G hk ok hr⟩
theorem row_dead_states (G : Good P w K mg CL) {f : Addr} {fd : FuncData} (Fn : Fun K "dead_states" "dead_states" (top 17) f fd) (hm : mg "dead_states" = some (.ref f)) (hb : Binds K fd [("flow" : Str)] []) : RowOk P w K mg base CL tab 23 (("dead_states" : Str), [("flow" : Str)], ⟨1, 2, b_dead_states⟩) :=
  ⟨f, fd, top 17, N_dead_states, Fn, hm, hb, ⟨rfl, rfl, rfl, by decide +kernel, rfl, by decide +kernel, by decide +kernel⟩, rfl, rfl, fun c k hk ok cdv A outer s H E hr => d_dead_states G hk ok hr⟩
theorem row_distances (G : Good P w K mg CL) {f : Addr} {fd : FuncData} (Fn : Fun K "distances" "distances" (top 18) f fd) (hm : mg "distances" = some (.ref f)) (hb : Binds K fd [("flow" : Str), ("target" : Str)] []) : RowOk P w K mg base CL tab 23 (("distances" : Str), [("flow" : Str), ("target" : Str)], ⟨2, 5, b_distances⟩) :=
  ⟨f, fd, top 18, N_distances, Fn, hm, hb, ⟨rfl, rfl, rfl, by decide +kernel, rfl, by decide +kernel, by decide +kernel⟩, rfl, rfl, fun c k hk ok cdv A outer s H E hr => d_distances G hk ok hr⟩
theorem row_walk_along (G : Good P w K mg CL) {f : Addr} {fd : FuncData} (Fn : Fun K "walk_along" "walk_along" (top 19) f fd) (hm : mg "walk_along" = some (.ref f)) (hb : Binds K fd [("flow" : Str), ("state" : Str), ("names" : Str)] []) : RowOk P w K mg base CL tab 23 (("walk_along" : Str), [("flow" : Str), ("state" : Str), ("names" : Str)], ⟨3, 6, b_walk_along⟩) :=
  ⟨f, fd, top 19, N_walk_along, Fn, hm, hb, ⟨rfl, rfl, rfl, by decide +kernel, rfl, by decide +kernel, by decide +kernel⟩, rfl, rfl, fun c k hk ok cdv A outer s H E hr => d_walk_along G hk ok hr⟩
theorem row_shortest_walk (G : Good P w K mg CL) {f : Addr} {fd : FuncData} (Fn : Fun K "shortest_walk" "shortest_walk" (top 20) f fd) (hm : mg "shortest_walk" = some (.ref f)) (hb : Binds K fd [("flow" : Str), ("source" : Str), ("target" : Str)] []) : RowOk P w K mg base CL tab 23 (("shortest_walk" : Str), [("flow" : Str), ("source" : Str), ("target" : Str)], ⟨3, 10, b_shortest_walk⟩) :=
  ⟨f, fd, top 20, N_shortest_walk, Fn, hm, hb, ⟨rfl, rfl, rfl, by decide +kernel, rfl, by decide +kernel, by decide +kernel⟩, rfl, rfl, fun c k hk ok cdv A outer s H E hr => d_shortest_walk G hk ok hr⟩
theorem row_count_walks (G : Good P w K mg CL) {f : Addr} {fd : FuncData} (Fn : Fun K "count_walks" "count_walks" (top 21) f fd) (hm : mg "count_walks" = some (.ref f)) (hb : Binds K fd [("flow" : Str), ("source" : Str), ("target" : Str), ("length" : Str)] []) : RowOk P w K mg base CL tab 23 (("count_walks" : Str), [("flow" : Str), ("source" : Str), ("target" : Str), ("length" : Str)], ⟨4, 8, b_count_walks⟩) :=
  ⟨f, fd, top 21, N_count_walks, Fn, hm, hb, ⟨rfl, rfl, rfl, by decide +kernel, rfl, by decide +kernel, by decide +kernel⟩, rfl, rfl, fun c k hk ok cdv A outer s H E hr => d_count_walks G hk ok hr⟩
theorem row_must_pass (G : Good P w K mg CL) {f : Addr} {fd : FuncData} (Fn : Fun K "must_pass" "must_pass" (top 22) f fd) (hm : mg "must_pass" = some (.ref f)) (hb : Binds K fd [("flow" : Str), ("state" : Str)] []) : RowOk P w K mg base CL tab 23 (("must_pass" : Str), [("flow" : Str), ("state" : Str)], ⟨2, 3, b_must_pass⟩) :=
  ⟨f, fd, top 22, N_must_pass, Fn, hm, hb, ⟨rfl, rfl, rfl, by decide +kernel, rfl, by decide +kernel, by decide +kernel⟩, rfl, rfl, fun c k hk ok cdv A outer s H E hr => d_must_pass G hk ok hr⟩
theorem row_least_days (G : Good P w K mg CL) {f : Addr} {fd : FuncData} (Fn : Fun K "least_days" "least_days" (top 23) f fd) (hm : mg "least_days" = some (.ref f)) (hb : Binds K fd [("flow" : Str), ("state" : Str)] []) : RowOk P w K mg base CL tab 23 (("least_days" : Str), [("flow" : Str), ("state" : Str)], ⟨2, 6, b_least_days⟩) :=
  ⟨f, fd, top 23, N_least_days, Fn, hm, hb, ⟨rfl, rfl, rfl, by decide +kernel, rfl, by decide +kernel, by decide +kernel⟩, rfl, rfl, fun c k hk ok cdv A outer s H E hr => d_least_days G hk ok hr⟩
theorem row__law_cell (G : Good P w K mg CL) {f : Addr} {fd : FuncData} (Fn : Fun K "_law_cell" "_law_cell" (top 25) f fd) (hm : mg "_law_cell" = some (.ref f)) (hb : Binds K fd [("script" : Str), ("k" : Str)] []) : RowOk P w K mg base CL tab 23 (("_law_cell" : Str), [("script" : Str), ("k" : Str)], ⟨2, 2, b__law_cell⟩) :=
  ⟨f, fd, top 25, N__law_cell, Fn, hm, hb, ⟨rfl, rfl, rfl, by decide +kernel, rfl, by decide +kernel, by decide +kernel⟩, rfl, rfl, fun c k hk ok cdv A outer s H E hr => d__law_cell G hk ok hr⟩
theorem row__law_digits (G : Good P w K mg CL) {f : Addr} {fd : FuncData} (Fn : Fun K "_law_digits" "_law_digits" (top 26) f fd) (hm : mg "_law_digits" = some (.ref f)) (hb : Binds K fd [("cell" : Str), ("sizes" : Str)] []) : RowOk P w K mg base CL tab 23 (("_law_digits" : Str), [("cell" : Str), ("sizes" : Str)], ⟨2, 5, b__law_digits⟩) :=
  ⟨f, fd, top 26, N__law_digits, Fn, hm, hb, ⟨rfl, rfl, rfl, by decide +kernel, rfl, by decide +kernel, by decide +kernel⟩, rfl, rfl, fun c k hk ok cdv A outer s H E hr => d__law_digits G hk ok hr⟩
theorem row__law_names (G : Good P w K mg CL) {f : Addr} {fd : FuncData} (Fn : Fun K "_law_names" "_law_names" (top 27) f fd) (hm : mg "_law_names" = some (.ref f)) (hb : Binds K fd [("cell" : Str), ("count" : Str)] []) : RowOk P w K mg base CL tab 23 (("_law_names" : Str), [("cell" : Str), ("count" : Str)], ⟨2, 13, b__law_names⟩) :=
  ⟨f, fd, top 27, N__law_names, Fn, hm, hb, ⟨rfl, rfl, rfl, by decide +kernel, rfl, by decide +kernel, by decide +kernel⟩, rfl, rfl, fun c k hk ok cdv A outer s H E hr => d__law_names G hk ok hr⟩
theorem row__law_flow (G : Good P w K mg CL) {f : Addr} {fd : FuncData} (Fn : Fun K "_law_flow" "_law_flow" (top 28) f fd) (hm : mg "_law_flow" = some (.ref f)) (hb : Binds K fd [("cell" : Str), ("states" : Str), ("names" : Str), ("roles" : Str)] []) : RowOk P w K mg base CL tab 23 (("_law_flow" : Str), [("cell" : Str), ("states" : Str), ("names" : Str), ("roles" : Str)], ⟨4, 18, b__law_flow⟩) :=
  ⟨f, fd, top 28, N__law_flow, Fn, hm, hb, ⟨rfl, rfl, rfl, by decide +kernel, rfl, by decide +kernel, by decide +kernel⟩, rfl, rfl, fun c k hk ok cdv A outer s H E hr => d__law_flow G hk ok hr⟩
theorem row__law_same (G : Good P w K mg CL) {f : Addr} {fd : FuncData} (Fn : Fun K "_law_same" "_law_same" (top 29) f fd) (hm : mg "_law_same" = some (.ref f)) (hb : Binds K fd [("told" : Str), ("due" : Str)] []) : RowOk P w K mg base CL tab 23 (("_law_same" : Str), [("told" : Str), ("due" : Str)], ⟨2, 3, b__law_same⟩) :=
  ⟨f, fd, top 29, N__law_same, Fn, hm, hb, ⟨rfl, rfl, rfl, by decide +kernel, rfl, by decide +kernel, by decide +kernel⟩, rfl, rfl, fun c k hk ok cdv A outer s H E hr => d__law_same G hk ok hr⟩
theorem row__law_reach (G : Good P w K mg CL) {f : Addr} {fd : FuncData} (Fn : Fun K "_law_reach" "_law_reach" (top 30) f fd) (hm : mg "_law_reach" = some (.ref f)) (hb : Binds K fd [("flow" : Str), ("state" : Str), ("avoided" : Str)] []) : RowOk P w K mg base CL tab 23 (("_law_reach" : Str), [("flow" : Str), ("state" : Str), ("avoided" : Str)], ⟨3, 6, b__law_reach⟩) :=
  ⟨f, fd, top 30, N__law_reach, Fn, hm, hb, ⟨rfl, rfl, rfl, by decide +kernel, rfl, by decide +kernel, by decide +kernel⟩, rfl, rfl, fun c k hk ok cdv A outer s H E hr => d__law_reach G hk ok hr⟩
theorem row__law_saved (G : Good P w K mg CL) {f : Addr} {fd : FuncData} (Fn : Fun K "_law_saved" "_law_saved" (top 31) f fd) (hm : mg "_law_saved" = some (.ref f)) (hb : Binds K fd [("flow" : Str), ("state" : Str), ("avoided" : Str)] []) : RowOk P w K mg base CL tab 23 (("_law_saved" : Str), [("flow" : Str), ("state" : Str), ("avoided" : Str)], ⟨3, 4, b__law_saved⟩) :=
  ⟨f, fd, top 31, N__law_saved, Fn, hm, hb, ⟨rfl, rfl, rfl, by decide +kernel, rfl, by decide +kernel, by decide +kernel⟩, rfl, rfl, fun c k hk ok cdv A outer s H E hr => d__law_saved G hk ok hr⟩
theorem row__law_shortest (G : Good P w K mg CL) {f : Addr} {fd : FuncData} (Fn : Fun K "_law_shortest" "_law_shortest" (top 32) f fd) (hm : mg "_law_shortest" = some (.ref f)) (hb : Binds K fd [("flow" : Str), ("source" : Str), ("target" : Str)] []) : RowOk P w K mg base CL tab 23 (("_law_shortest" : Str), [("flow" : Str), ("source" : Str), ("target" : Str)], ⟨3, 8, b__law_shortest⟩) :=
  ⟨f, fd, top 32, N__law_shortest, Fn, hm, hb, ⟨rfl, rfl, rfl, by decide +kernel, rfl, by decide +kernel, by decide +kernel⟩, rfl, rfl, fun c k hk ok cdv A outer s H E hr => d__law_shortest G hk ok hr⟩
theorem row__law_counted (G : Good P w K mg CL) {f : Addr} {fd : FuncData} (Fn : Fun K "_law_counted" "_law_counted" (top 33) f fd) (hm : mg "_law_counted" = some (.ref f)) (hb : Binds K fd [("flow" : Str), ("source" : Str), ("target" : Str), ("length" : Str)] []) : RowOk P w K mg base CL tab 23 (("_law_counted" : Str), [("flow" : Str), ("source" : Str), ("target" : Str), ("length" : Str)], ⟨4, 8, b__law_counted⟩) :=
  ⟨f, fd, top 33, N__law_counted, Fn, hm, hb, ⟨rfl, rfl, rfl, by decide +kernel, rfl, by decide +kernel, by decide +kernel⟩, rfl, rfl, fun c k hk ok cdv A outer s H E hr => d__law_counted G hk ok hr⟩
theorem row__law_least (G : Good P w K mg CL) {f : Addr} {fd : FuncData} (Fn : Fun K "_law_least" "_law_least" (top 34) f fd) (hm : mg "_law_least" = some (.ref f)) (hb : Binds K fd [("flow" : Str), ("state" : Str)] []) : RowOk P w K mg base CL tab 23 (("_law_least" : Str), [("flow" : Str), ("state" : Str)], ⟨2, 7, b__law_least⟩) :=
  ⟨f, fd, top 34, N__law_least, Fn, hm, hb, ⟨rfl, rfl, rfl, by decide +kernel, rfl, by decide +kernel, by decide +kernel⟩, rfl, rfl, fun c k hk ok cdv A outer s H E hr => d__law_least G hk ok hr⟩
theorem row__law_trip (G : Good P w K mg CL) {f : Addr} {fd : FuncData} (Fn : Fun K "_law_trip" "_law_trip" (top 35) f fd) (hm : mg "_law_trip" = some (.ref f)) (hb : Binds K fd [("flow" : Str), ("state" : Str), ("row" : Str), ("names" : Str)] []) : RowOk P w K mg base CL tab 23 (("_law_trip" : Str), [("flow" : Str), ("state" : Str), ("row" : Str), ("names" : Str)], ⟨4, 9, b__law_trip⟩) :=
  ⟨f, fd, top 35, N__law_trip, Fn, hm, hb, ⟨rfl, rfl, rfl, by decide +kernel, rfl, by decide +kernel, by decide +kernel⟩, rfl, rfl, fun c k hk ok cdv A outer s H E hr => d__law_trip G hk ok hr⟩
theorem row__law_along (G : Good P w K mg CL) {f : Addr} {fd : FuncData} (Fn : Fun K "_law_along" "_law_along" (top 36) f fd) (hm : mg "_law_along" = some (.ref f)) (hb : Binds K fd [("flow" : Str), ("state" : Str), ("trip" : Str)] []) : RowOk P w K mg base CL tab 23 (("_law_along" : Str), [("flow" : Str), ("state" : Str), ("trip" : Str)], ⟨3, 7, b__law_along⟩) :=
  ⟨f, fd, top 36, N__law_along, Fn, hm, hb, ⟨rfl, rfl, rfl, by decide +kernel, rfl, by decide +kernel, by decide +kernel⟩, rfl, rfl, fun c k hk ok cdv A outer s H E hr => d__law_along G hk ok hr⟩
theorem row__law_asked (G : Good P w K mg CL) {f : Addr} {fd : FuncData} (Fn : Fun K "_law_asked" "_law_asked" (top 37) f fd) (hm : mg "_law_asked" = some (.ref f)) (hb : Binds K fd [("which" : Str), ("flow" : Str), ("state" : Str), ("other" : Str), ("more" : Str)] []) : RowOk P w K mg base CL tab 23 (("_law_asked" : Str), [("which" : Str), ("flow" : Str), ("state" : Str), ("other" : Str), ("more" : Str)], ⟨5, 5, b__law_asked⟩) :=
  ⟨f, fd, top 37, N__law_asked, Fn, hm, hb, ⟨rfl, rfl, rfl, by decide +kernel, rfl, by decide +kernel, by decide +kernel⟩, rfl, rfl, fun c k hk ok cdv A outer s H E hr => d__law_asked G hk ok hr⟩
theorem row__law_told (G : Good P w K mg CL) {f : Addr} {fd : FuncData} (Fn : Fun K "_law_told" "_law_told" (top 38) f fd) (hm : mg "_law_told" = some (.ref f)) (hb : Binds K fd [("which" : Str), ("flow" : Str), ("state" : Str), ("other" : Str), ("more" : Str)] []) : RowOk P w K mg base CL tab 23 (("_law_told" : Str), [("which" : Str), ("flow" : Str), ("state" : Str), ("other" : Str), ("more" : Str)], ⟨5, 6, b__law_told⟩) :=
  ⟨f, fd, top 38, N__law_told, Fn, hm, hb, ⟨rfl, rfl, rfl, by decide +kernel, rfl, by decide +kernel, by decide +kernel⟩, rfl, rfl, fun c k hk ok cdv A outer s H E hr => d__law_told G hk ok hr⟩
theorem row__law_state_told (G : Good P w K mg CL) {f : Addr} {fd : FuncData} (Fn : Fun K "_law_state_told" "_law_state_told" (top 39) f fd) (hm : mg "_law_state_told" = some (.ref f)) (hb : Binds K fd [("flow" : Str), ("state" : Str)] []) : RowOk P w K mg base CL tab 23 (("_law_state_told" : Str), [("flow" : Str), ("state" : Str)], ⟨2, 5, b__law_state_told⟩) :=
  ⟨f, fd, top 39, N__law_state_told, Fn, hm, hb, ⟨rfl, rfl, rfl, by decide +kernel, rfl, by decide +kernel, by decide +kernel⟩, rfl, rfl, fun c k hk ok cdv A outer s H E hr => d__law_state_told G hk ok hr⟩
theorem row__law_pair_told (G : Good P w K mg CL) {f : Addr} {fd : FuncData} (Fn : Fun K "_law_pair_told" "_law_pair_told" (top 40) f fd) (hm : mg "_law_pair_told" = some (.ref f)) (hb : Binds K fd [("flow" : Str), ("state" : Str), ("other" : Str), ("length" : Str)] []) : RowOk P w K mg base CL tab 23 (("_law_pair_told" : Str), [("flow" : Str), ("state" : Str), ("other" : Str), ("length" : Str)], ⟨4, 5, b__law_pair_told⟩) :=
  ⟨f, fd, top 40, N__law_pair_told, Fn, hm, hb, ⟨rfl, rfl, rfl, by decide +kernel, rfl, by decide +kernel, by decide +kernel⟩, rfl, rfl, fun c k hk ok cdv A outer s H E hr => d__law_pair_told G hk ok hr⟩
theorem row__law_strangers_told (G : Good P w K mg CL) {f : Addr} {fd : FuncData} (Fn : Fun K "_law_strangers_told" "_law_strangers_told" (top 41) f fd) (hm : mg "_law_strangers_told" = some (.ref f)) (hb : Binds K fd [("flow" : Str), ("state" : Str), ("first" : Str), ("second" : Str), ("length" : Str), ("trip" : Str)] []) : RowOk P w K mg base CL tab 23 (("_law_strangers_told" : Str), [("flow" : Str), ("state" : Str), ("first" : Str), ("second" : Str), ("length" : Str), ("trip" : Str)], ⟨6, 7, b__law_strangers_told⟩) :=
  ⟨f, fd, top 41, N__law_strangers_told, Fn, hm, hb, ⟨rfl, rfl, rfl, by decide +kernel, rfl, by decide +kernel, by decide +kernel⟩, rfl, rfl, fun c k hk ok cdv A outer s H E hr => d__law_strangers_told G hk ok hr⟩
theorem row_law (G : Good P w K mg CL) {f : Addr} {fd : FuncData} (Fn : Fun K "law" "law" (top 42) f fd) (hm : mg "law" = some (.ref f)) (hb : Binds K fd [("script" : Str)] []) : RowOk P w K mg base CL tab 23 (("law" : Str), [("script" : Str)], ⟨1, 11, b_law⟩) :=
  ⟨f, fd, top 42, N_law, Fn, hm, hb, ⟨rfl, rfl, rfl, by decide +kernel, rfl, by decide +kernel, by decide +kernel⟩, rfl, rfl, fun c k hk ok cdv A outer s H E hr => d_law G hk ok hr⟩
end
/-- the law's promise -/
def spLaw (K : Frag) : Sp := fun vs H Q _ => ∃ (a : Addr) (ns : List Int), vs = [.ref a] ∧ ns.length ≤ 63 ∧ SqL K H a (ns.map V.int) ∧ ∀ H', Q (.bl true) H'
theorem rep_ints {K : Frag} {H : Hp} {r : Rho} : ∀ ns : List Int, RepA K H r (ns.map V.int) (ns.map D.int)
  | [] => .nil
  | n :: ns => .cons (.int n) (rep_ints ns)
theorem law_sp {K : Frag} {CL : List XC} {g : List D → Hd → Res D} (h : ∀ ns : List Int, ns.length ≤ 63 → ∃ h', g [.scr (ns.map D.int)] [] = .ok (.bl true) h') : ∀ vs H Q E, spLaw K vs H Q E → spC K CL g 1 vs H Q E := by
  rintro vs H Q E ⟨a, ns, rfl, hl, hS, q⟩
  obtain ⟨h', e⟩ := h ns hl
  have R0 : R K Rho.nil [] H := ⟨rfl, fun i j a e => by simp at e, fun i a e => by simp at e, fun i e => by simp at e, fun a m => by simp at m⟩
  have fz : FzS K H Rho.nil a (ns.map V.int) := by
    rcases hS with hS | hS
    · exact .inl ⟨hS, fun m => by rcases m with m | m <;> simp at m⟩
    · exact .inr (.inr hS)
  refine ⟨rfl, Rho.nil, [.scr (ns.map D.int)], [], R0, .cons (.scr fz (rep_ints ns)) .nil, ?_⟩
  rw [e]
  intro v r' H' _ _ rv
  cases rv
  exact q H'

theorem all_mk {w : World} {K : Frag} {h : Heap} {mg : Str → Option Value} {fa : Addr} (X : K.In h) (G : h.Ns mainGlobals mg) (hfa : mg "law" = some (.ref fa))
    {f0 f1 f2 f3 f4 f5 f6 f7 f8 f9 f10 f11 f12 f13 f14 f15 f16 f17 f18 f19 f20 f21 f22 f23 f24 f25 f26 f27 f28 f29 f30 f31 C_BadValue C_Missing C_Refused C_SnagError fI_BadValue cda_BadValue cc_BadValue fI_Missing cda_Missing cc_Missing fI_Refused cda_Refused cc_Refused : Addr}
    {t1 t2 : Tok}
    {oc0 kV0 dc0 pm0 cd0 ct0 : Value} {od0 an0 : Option Addr} {sl0 : Array (Option Value)}
    {oc1 kV1 dc1 pm1 cd1 ct1 : Value} {od1 an1 : Option Addr} {sl1 : Array (Option Value)}
    {oc2 kV2 dc2 pm2 cd2 ct2 : Value} {od2 an2 : Option Addr} {sl2 : Array (Option Value)}
    {oc3 kV3 dc3 pm3 cd3 ct3 : Value} {od3 an3 : Option Addr} {sl3 : Array (Option Value)}
    {oc4 kV4 dc4 pm4 cd4 ct4 : Value} {od4 an4 : Option Addr} {sl4 : Array (Option Value)}
    {oc5 kV5 dc5 pm5 cd5 ct5 : Value} {od5 an5 : Option Addr} {sl5 : Array (Option Value)}
    {oc6 kV6 dc6 pm6 cd6 ct6 : Value} {od6 an6 : Option Addr} {sl6 : Array (Option Value)}
    {oc7 kV7 dc7 pm7 cd7 ct7 : Value} {od7 an7 : Option Addr} {sl7 : Array (Option Value)}
    {oc8 kV8 dc8 pm8 cd8 ct8 : Value} {od8 an8 : Option Addr} {sl8 : Array (Option Value)}
    {oc9 kV9 dc9 pm9 cd9 ct9 : Value} {od9 an9 : Option Addr} {sl9 : Array (Option Value)}
    {oc10 kV10 dc10 pm10 cd10 ct10 : Value} {od10 an10 : Option Addr} {sl10 : Array (Option Value)}
    {oc11 kV11 dc11 pm11 cd11 ct11 : Value} {od11 an11 : Option Addr} {sl11 : Array (Option Value)}
    {oc12 kV12 dc12 pm12 cd12 ct12 : Value} {od12 an12 : Option Addr} {sl12 : Array (Option Value)}
    {oc13 kV13 dc13 pm13 cd13 ct13 : Value} {od13 an13 : Option Addr} {sl13 : Array (Option Value)}
    {oc14 kV14 dc14 pm14 cd14 ct14 : Value} {od14 an14 : Option Addr} {sl14 : Array (Option Value)}
    {oc15 kV15 dc15 pm15 cd15 ct15 : Value} {od15 an15 : Option Addr} {sl15 : Array (Option Value)}
    {oc16 kV16 dc16 pm16 cd16 ct16 : Value} {od16 an16 : Option Addr} {sl16 : Array (Option Value)}
    {oc17 kV17 dc17 pm17 cd17 ct17 : Value} {od17 an17 : Option Addr} {sl17 : Array (Option Value)}
    {oc18 kV18 dc18 pm18 cd18 ct18 : Value} {od18 an18 : Option Addr} {sl18 : Array (Option Value)}
    {oc19 kV19 dc19 pm19 cd19 ct19 : Value} {od19 an19 : Option Addr} {sl19 : Array (Option Value)}
    {oc20 kV20 dc20 pm20 cd20 ct20 : Value} {od20 an20 : Option Addr} {sl20 : Array (Option Value)}
    {oc21 kV21 dc21 pm21 cd21 ct21 : Value} {od21 an21 : Option Addr} {sl21 : Array (Option Value)}
    {oc22 kV22 dc22 pm22 cd22 ct22 : Value} {od22 an22 : Option Addr} {sl22 : Array (Option Value)}
    {oc23 kV23 dc23 pm23 cd23 ct23 : Value} {od23 an23 : Option Addr} {sl23 : Array (Option Value)}
    {oc24 kV24 dc24 pm24 cd24 ct24 : Value} {od24 an24 : Option Addr} {sl24 : Array (Option Value)}
    {oc25 kV25 dc25 pm25 cd25 ct25 : Value} {od25 an25 : Option Addr} {sl25 : Array (Option Value)}
    {oc26 kV26 dc26 pm26 cd26 ct26 : Value} {od26 an26 : Option Addr} {sl26 : Array (Option Value)}
    {oc27 kV27 dc27 pm27 cd27 ct27 : Value} {od27 an27 : Option Addr} {sl27 : Array (Option Value)}
    {oc28 kV28 dc28 pm28 cd28 ct28 : Value} {od28 an28 : Option Addr} {sl28 : Array (Option Value)}
    {oc29 kV29 dc29 pm29 cd29 ct29 : Value} {od29 an29 : Option Addr} {sl29 : Array (Option Value)}
    {oc30 kV30 dc30 pm30 cd30 ct30 : Value} {od30 an30 : Option Addr} {sl30 : Array (Option Value)}
    {oc31 kV31 dc31 pm31 cd31 ct31 : Value} {od31 an31 : Option Addr} {sl31 : Array (Option Value)}
    {nm_BadValue q_BadValue : Str} {N_BadValue : Addr} {bs_BadValue sub_BadValue : List Value} {sn_BadValue : List Str} {ab_BadValue : Bool} {col_BadValue : Option Bool} {dd_BadValue : Option Addr} {s0_BadValue s1_BadValue s2_BadValue s3_BadValue s5_BadValue : Option Value}
    {ocI_BadValue dcI_BadValue pmI_BadValue ctI_BadValue cclI_BadValue clI_BadValue : Value} {odI_BadValue anI_BadValue cddI_BadValue cldI_BadValue : Option Addr} {slI_BadValue ccsI_BadValue cslI_BadValue : Array (Option Value)} {vsI_BadValue : Array Value} {fileI_BadValue : Str} {tfI_BadValue : Tok}
    {nm_Missing q_Missing : Str} {N_Missing : Addr} {bs_Missing sub_Missing : List Value} {sn_Missing : List Str} {ab_Missing : Bool} {col_Missing : Option Bool} {dd_Missing : Option Addr} {s0_Missing s1_Missing s2_Missing s3_Missing s5_Missing : Option Value}
    {ocI_Missing dcI_Missing pmI_Missing ctI_Missing cclI_Missing clI_Missing : Value} {odI_Missing anI_Missing cddI_Missing cldI_Missing : Option Addr} {slI_Missing ccsI_Missing cslI_Missing : Array (Option Value)} {vsI_Missing : Array Value} {fileI_Missing : Str} {tfI_Missing : Tok}
    {nm_Refused q_Refused : Str} {N_Refused : Addr} {bs_Refused sub_Refused : List Value} {sn_Refused : List Str} {ab_Refused : Bool} {col_Refused : Option Bool} {dd_Refused : Option Addr} {s0_Refused s1_Refused s2_Refused s3_Refused s5_Refused : Option Value}
    {ocI_Refused dcI_Refused pmI_Refused ctI_Refused cclI_Refused clI_Refused : Value} {odI_Refused anI_Refused cddI_Refused cldI_Refused : Option Addr} {slI_Refused ccsI_Refused cslI_Refused : Array (Option Value)} {vsI_Refused : Array Value} {fileI_Refused : Str} {tfI_Refused : Tok}
    (a0 : PySem.W.nsIn K mainGlobals "is_whole" = some (some (.ref f0)))
    (l0 : K.lookup f0 = some ⟨oc0, od0, .func (PySem.W.fnOf "is_whole" "is_whole" (defArgs (top 8)) (defBody (top 8)) (defScope (top 8)) .none kV0 dc0 pm0 an0 cd0 ct0), sl0⟩)
    (c0 : PySem.W.codeIn K cd0 "is_whole" = true)
    (k0 : PySem.W.keepIn K (.ref f0) = true)
    (a1 : PySem.W.nsIn K mainGlobals "is_between" = some (some (.ref f1)))
    (l1 : K.lookup f1 = some ⟨oc1, od1, .func (PySem.W.fnOf "is_between" "is_between" (defArgs (top 9)) (defBody (top 9)) (defScope (top 9)) .none kV1 dc1 pm1 an1 cd1 ct1), sl1⟩)
    (c1 : PySem.W.codeIn K cd1 "is_between" = true)
    (k1 : PySem.W.keepIn K (.ref f1) = true)
    (a2 : PySem.W.nsIn K mainGlobals "require_state" = some (some (.ref f2)))
    (l2 : K.lookup f2 = some ⟨oc2, od2, .func (PySem.W.fnOf "require_state" "require_state" (defArgs (top 11)) (defBody (top 11)) (defScope (top 11)) .none kV2 dc2 pm2 an2 cd2 ct2), sl2⟩)
    (c2 : PySem.W.codeIn K cd2 "require_state" = true)
    (k2 : PySem.W.keepIn K (.ref f2) = true)
    (a3 : PySem.W.nsIn K mainGlobals "ways_from" = some (some (.ref f3)))
    (l3 : K.lookup f3 = some ⟨oc3, od3, .func (PySem.W.fnOf "ways_from" "ways_from" (defArgs (top 12)) (defBody (top 12)) (defScope (top 12)) .none kV3 dc3 pm3 an3 cd3 ct3), sl3⟩)
    (c3 : PySem.W.codeIn K cd3 "ways_from" = true)
    (k3 : PySem.W.keepIn K (.ref f3) = true)
    (a4 : PySem.W.nsIn K mainGlobals "find_way" = some (some (.ref f4)))
    (l4 : K.lookup f4 = some ⟨oc4, od4, .func (PySem.W.fnOf "find_way" "find_way" (defArgs (top 13)) (defBody (top 13)) (defScope (top 13)) .none kV4 dc4 pm4 an4 cd4 ct4), sl4⟩)
    (c4 : PySem.W.codeIn K cd4 "find_way" = true)
    (k4 : PySem.W.keepIn K (.ref f4) = true)
    (a5 : PySem.W.nsIn K mainGlobals "reachable" = some (some (.ref f5)))
    (l5 : K.lookup f5 = some ⟨oc5, od5, .func (PySem.W.fnOf "reachable" "reachable" (defArgs (top 15)) (defBody (top 15)) (defScope (top 15)) .none kV5 dc5 pm5 an5 cd5 ct5), sl5⟩)
    (c5 : PySem.W.codeIn K cd5 "reachable" = true)
    (k5 : PySem.W.keepIn K (.ref f5) = true)
    (a6 : PySem.W.nsIn K mainGlobals "reaches_closed" = some (some (.ref f6)))
    (l6 : K.lookup f6 = some ⟨oc6, od6, .func (PySem.W.fnOf "reaches_closed" "reaches_closed" (defArgs (top 16)) (defBody (top 16)) (defScope (top 16)) .none kV6 dc6 pm6 an6 cd6 ct6), sl6⟩)
    (c6 : PySem.W.codeIn K cd6 "reaches_closed" = true)
    (k6 : PySem.W.keepIn K (.ref f6) = true)
    (a7 : PySem.W.nsIn K mainGlobals "dead_states" = some (some (.ref f7)))
    (l7 : K.lookup f7 = some ⟨oc7, od7, .func (PySem.W.fnOf "dead_states" "dead_states" (defArgs (top 17)) (defBody (top 17)) (defScope (top 17)) .none kV7 dc7 pm7 an7 cd7 ct7), sl7⟩)
    (c7 : PySem.W.codeIn K cd7 "dead_states" = true)
    (k7 : PySem.W.keepIn K (.ref f7) = true)
    (a8 : PySem.W.nsIn K mainGlobals "distances" = some (some (.ref f8)))
    (l8 : K.lookup f8 = some ⟨oc8, od8, .func (PySem.W.fnOf "distances" "distances" (defArgs (top 18)) (defBody (top 18)) (defScope (top 18)) .none kV8 dc8 pm8 an8 cd8 ct8), sl8⟩)
    (c8 : PySem.W.codeIn K cd8 "distances" = true)
    (k8 : PySem.W.keepIn K (.ref f8) = true)
    (a9 : PySem.W.nsIn K mainGlobals "walk_along" = some (some (.ref f9)))
    (l9 : K.lookup f9 = some ⟨oc9, od9, .func (PySem.W.fnOf "walk_along" "walk_along" (defArgs (top 19)) (defBody (top 19)) (defScope (top 19)) .none kV9 dc9 pm9 an9 cd9 ct9), sl9⟩)
    (c9 : PySem.W.codeIn K cd9 "walk_along" = true)
    (k9 : PySem.W.keepIn K (.ref f9) = true)
    (a10 : PySem.W.nsIn K mainGlobals "shortest_walk" = some (some (.ref f10)))
    (l10 : K.lookup f10 = some ⟨oc10, od10, .func (PySem.W.fnOf "shortest_walk" "shortest_walk" (defArgs (top 20)) (defBody (top 20)) (defScope (top 20)) .none kV10 dc10 pm10 an10 cd10 ct10), sl10⟩)
    (c10 : PySem.W.codeIn K cd10 "shortest_walk" = true)
    (k10 : PySem.W.keepIn K (.ref f10) = true)
    (a11 : PySem.W.nsIn K mainGlobals "count_walks" = some (some (.ref f11)))
    (l11 : K.lookup f11 = some ⟨oc11, od11, .func (PySem.W.fnOf "count_walks" "count_walks" (defArgs (top 21)) (defBody (top 21)) (defScope (top 21)) .none kV11 dc11 pm11 an11 cd11 ct11), sl11⟩)
    (c11 : PySem.W.codeIn K cd11 "count_walks" = true)
    (k11 : PySem.W.keepIn K (.ref f11) = true)
    (a12 : PySem.W.nsIn K mainGlobals "must_pass" = some (some (.ref f12)))
    (l12 : K.lookup f12 = some ⟨oc12, od12, .func (PySem.W.fnOf "must_pass" "must_pass" (defArgs (top 22)) (defBody (top 22)) (defScope (top 22)) .none kV12 dc12 pm12 an12 cd12 ct12), sl12⟩)
    (c12 : PySem.W.codeIn K cd12 "must_pass" = true)
    (k12 : PySem.W.keepIn K (.ref f12) = true)
    (a13 : PySem.W.nsIn K mainGlobals "least_days" = some (some (.ref f13)))
    (l13 : K.lookup f13 = some ⟨oc13, od13, .func (PySem.W.fnOf "least_days" "least_days" (defArgs (top 23)) (defBody (top 23)) (defScope (top 23)) .none kV13 dc13 pm13 an13 cd13 ct13), sl13⟩)
    (c13 : PySem.W.codeIn K cd13 "least_days" = true)
    (k13 : PySem.W.keepIn K (.ref f13) = true)
    (a14 : PySem.W.nsIn K mainGlobals "_law_cell" = some (some (.ref f14)))
    (l14 : K.lookup f14 = some ⟨oc14, od14, .func (PySem.W.fnOf "_law_cell" "_law_cell" (defArgs (top 25)) (defBody (top 25)) (defScope (top 25)) .none kV14 dc14 pm14 an14 cd14 ct14), sl14⟩)
    (c14 : PySem.W.codeIn K cd14 "_law_cell" = true)
    (k14 : PySem.W.keepIn K (.ref f14) = true)
    (a15 : PySem.W.nsIn K mainGlobals "_law_digits" = some (some (.ref f15)))
    (l15 : K.lookup f15 = some ⟨oc15, od15, .func (PySem.W.fnOf "_law_digits" "_law_digits" (defArgs (top 26)) (defBody (top 26)) (defScope (top 26)) .none kV15 dc15 pm15 an15 cd15 ct15), sl15⟩)
    (c15 : PySem.W.codeIn K cd15 "_law_digits" = true)
    (k15 : PySem.W.keepIn K (.ref f15) = true)
    (a16 : PySem.W.nsIn K mainGlobals "_law_names" = some (some (.ref f16)))
    (l16 : K.lookup f16 = some ⟨oc16, od16, .func (PySem.W.fnOf "_law_names" "_law_names" (defArgs (top 27)) (defBody (top 27)) (defScope (top 27)) .none kV16 dc16 pm16 an16 cd16 ct16), sl16⟩)
    (c16 : PySem.W.codeIn K cd16 "_law_names" = true)
    (k16 : PySem.W.keepIn K (.ref f16) = true)
    (a17 : PySem.W.nsIn K mainGlobals "_law_flow" = some (some (.ref f17)))
    (l17 : K.lookup f17 = some ⟨oc17, od17, .func (PySem.W.fnOf "_law_flow" "_law_flow" (defArgs (top 28)) (defBody (top 28)) (defScope (top 28)) .none kV17 dc17 pm17 an17 cd17 ct17), sl17⟩)
    (c17 : PySem.W.codeIn K cd17 "_law_flow" = true)
    (k17 : PySem.W.keepIn K (.ref f17) = true)
    (a18 : PySem.W.nsIn K mainGlobals "_law_same" = some (some (.ref f18)))
    (l18 : K.lookup f18 = some ⟨oc18, od18, .func (PySem.W.fnOf "_law_same" "_law_same" (defArgs (top 29)) (defBody (top 29)) (defScope (top 29)) .none kV18 dc18 pm18 an18 cd18 ct18), sl18⟩)
    (c18 : PySem.W.codeIn K cd18 "_law_same" = true)
    (k18 : PySem.W.keepIn K (.ref f18) = true)
    (a19 : PySem.W.nsIn K mainGlobals "_law_reach" = some (some (.ref f19)))
    (l19 : K.lookup f19 = some ⟨oc19, od19, .func (PySem.W.fnOf "_law_reach" "_law_reach" (defArgs (top 30)) (defBody (top 30)) (defScope (top 30)) .none kV19 dc19 pm19 an19 cd19 ct19), sl19⟩)
    (c19 : PySem.W.codeIn K cd19 "_law_reach" = true)
    (k19 : PySem.W.keepIn K (.ref f19) = true)
    (a20 : PySem.W.nsIn K mainGlobals "_law_saved" = some (some (.ref f20)))
    (l20 : K.lookup f20 = some ⟨oc20, od20, .func (PySem.W.fnOf "_law_saved" "_law_saved" (defArgs (top 31)) (defBody (top 31)) (defScope (top 31)) .none kV20 dc20 pm20 an20 cd20 ct20), sl20⟩)
    (c20 : PySem.W.codeIn K cd20 "_law_saved" = true)
    (k20 : PySem.W.keepIn K (.ref f20) = true)
    (a21 : PySem.W.nsIn K mainGlobals "_law_shortest" = some (some (.ref f21)))
    (l21 : K.lookup f21 = some ⟨oc21, od21, .func (PySem.W.fnOf "_law_shortest" "_law_shortest" (defArgs (top 32)) (defBody (top 32)) (defScope (top 32)) .none kV21 dc21 pm21 an21 cd21 ct21), sl21⟩)
    (c21 : PySem.W.codeIn K cd21 "_law_shortest" = true)
    (k21 : PySem.W.keepIn K (.ref f21) = true)
    (a22 : PySem.W.nsIn K mainGlobals "_law_counted" = some (some (.ref f22)))
    (l22 : K.lookup f22 = some ⟨oc22, od22, .func (PySem.W.fnOf "_law_counted" "_law_counted" (defArgs (top 33)) (defBody (top 33)) (defScope (top 33)) .none kV22 dc22 pm22 an22 cd22 ct22), sl22⟩)
    (c22 : PySem.W.codeIn K cd22 "_law_counted" = true)
    (k22 : PySem.W.keepIn K (.ref f22) = true)
    (a23 : PySem.W.nsIn K mainGlobals "_law_least" = some (some (.ref f23)))
    (l23 : K.lookup f23 = some ⟨oc23, od23, .func (PySem.W.fnOf "_law_least" "_law_least" (defArgs (top 34)) (defBody (top 34)) (defScope (top 34)) .none kV23 dc23 pm23 an23 cd23 ct23), sl23⟩)
    (c23 : PySem.W.codeIn K cd23 "_law_least" = true)
    (k23 : PySem.W.keepIn K (.ref f23) = true)
    (a24 : PySem.W.nsIn K mainGlobals "_law_trip" = some (some (.ref f24)))
    (l24 : K.lookup f24 = some ⟨oc24, od24, .func (PySem.W.fnOf "_law_trip" "_law_trip" (defArgs (top 35)) (defBody (top 35)) (defScope (top 35)) .none kV24 dc24 pm24 an24 cd24 ct24), sl24⟩)
    (c24 : PySem.W.codeIn K cd24 "_law_trip" = true)
    (k24 : PySem.W.keepIn K (.ref f24) = true)
    (a25 : PySem.W.nsIn K mainGlobals "_law_along" = some (some (.ref f25)))
    (l25 : K.lookup f25 = some ⟨oc25, od25, .func (PySem.W.fnOf "_law_along" "_law_along" (defArgs (top 36)) (defBody (top 36)) (defScope (top 36)) .none kV25 dc25 pm25 an25 cd25 ct25), sl25⟩)
    (c25 : PySem.W.codeIn K cd25 "_law_along" = true)
    (k25 : PySem.W.keepIn K (.ref f25) = true)
    (a26 : PySem.W.nsIn K mainGlobals "_law_asked" = some (some (.ref f26)))
    (l26 : K.lookup f26 = some ⟨oc26, od26, .func (PySem.W.fnOf "_law_asked" "_law_asked" (defArgs (top 37)) (defBody (top 37)) (defScope (top 37)) .none kV26 dc26 pm26 an26 cd26 ct26), sl26⟩)
    (c26 : PySem.W.codeIn K cd26 "_law_asked" = true)
    (k26 : PySem.W.keepIn K (.ref f26) = true)
    (a27 : PySem.W.nsIn K mainGlobals "_law_told" = some (some (.ref f27)))
    (l27 : K.lookup f27 = some ⟨oc27, od27, .func (PySem.W.fnOf "_law_told" "_law_told" (defArgs (top 38)) (defBody (top 38)) (defScope (top 38)) .none kV27 dc27 pm27 an27 cd27 ct27), sl27⟩)
    (c27 : PySem.W.codeIn K cd27 "_law_told" = true)
    (k27 : PySem.W.keepIn K (.ref f27) = true)
    (a28 : PySem.W.nsIn K mainGlobals "_law_state_told" = some (some (.ref f28)))
    (l28 : K.lookup f28 = some ⟨oc28, od28, .func (PySem.W.fnOf "_law_state_told" "_law_state_told" (defArgs (top 39)) (defBody (top 39)) (defScope (top 39)) .none kV28 dc28 pm28 an28 cd28 ct28), sl28⟩)
    (c28 : PySem.W.codeIn K cd28 "_law_state_told" = true)
    (k28 : PySem.W.keepIn K (.ref f28) = true)
    (a29 : PySem.W.nsIn K mainGlobals "_law_pair_told" = some (some (.ref f29)))
    (l29 : K.lookup f29 = some ⟨oc29, od29, .func (PySem.W.fnOf "_law_pair_told" "_law_pair_told" (defArgs (top 40)) (defBody (top 40)) (defScope (top 40)) .none kV29 dc29 pm29 an29 cd29 ct29), sl29⟩)
    (c29 : PySem.W.codeIn K cd29 "_law_pair_told" = true)
    (k29 : PySem.W.keepIn K (.ref f29) = true)
    (a30 : PySem.W.nsIn K mainGlobals "_law_strangers_told" = some (some (.ref f30)))
    (l30 : K.lookup f30 = some ⟨oc30, od30, .func (PySem.W.fnOf "_law_strangers_told" "_law_strangers_told" (defArgs (top 41)) (defBody (top 41)) (defScope (top 41)) .none kV30 dc30 pm30 an30 cd30 ct30), sl30⟩)
    (c30 : PySem.W.codeIn K cd30 "_law_strangers_told" = true)
    (k30 : PySem.W.keepIn K (.ref f30) = true)
    (a31 : PySem.W.nsIn K mainGlobals "law" = some (some (.ref f31)))
    (l31 : K.lookup f31 = some ⟨oc31, od31, .func (PySem.W.fnOf "law" "law" (defArgs (top 42)) (defBody (top 42)) (defScope (top 42)) .none kV31 dc31 pm31 an31 cd31 ct31), sl31⟩)
    (c31 : PySem.W.codeIn K cd31 "law" = true)
    (k31 : PySem.W.keepIn K (.ref f31) = true)
    (z_ValueError : PySem.W.nsIn K mainGlobals "ValueError" = some none)
    (z_all : PySem.W.nsIn K mainGlobals "all" = some none)
    (z_any : PySem.W.nsIn K mainGlobals "any" = some none)
    (z_bool : PySem.W.nsIn K mainGlobals "bool" = some none)
    (z_int : PySem.W.nsIn K mainGlobals "int" = some none)
    (z_isinstance : PySem.W.nsIn K mainGlobals "isinstance" = some none)
    (z_len : PySem.W.nsIn K mainGlobals "len" = some none)
    (z_min : PySem.W.nsIn K mainGlobals "min" = some none)
    (z_range : PySem.W.nsIn K mainGlobals "range" = some none)
    (z_str : PySem.W.nsIn K mainGlobals "str" = some none)
    (z_super : PySem.W.nsIn K mainGlobals "super" = some none)
    (z_tuple : PySem.W.nsIn K mainGlobals "tuple" = some none)
    (v_MOST_LENGTH : PySem.W.nsIn K mainGlobals "MOST_LENGTH" = some (some (.int 30 t1)))
    (v_NEVER : PySem.W.nsIn K mainGlobals "NEVER" = some (some (.int 1000000000 t2)))
    (g_BadValue : PySem.W.nsIn K mainGlobals "BadValue" = some (some (.ref C_BadValue)))
    (g_Missing : PySem.W.nsIn K mainGlobals "Missing" = some (some (.ref C_Missing)))
    (g_Refused : PySem.W.nsIn K mainGlobals "Refused" = some (some (.ref C_Refused)))
    (g_SnagError : PySem.W.nsIn K mainGlobals "SnagError" = some (some (.ref C_SnagError)))
    (x_BadValue : K.lookup C_BadValue = some (excClassObj nm_BadValue q_BadValue C_BadValue N_BadValue bs_BadValue [.ref C_SnagError, .type "ValueError", .type "Exception", .type "BaseException", .type "object"] true sn_BadValue sub_BadValue ab_BadValue col_BadValue dd_BadValue s0_BadValue s1_BadValue s2_BadValue s3_BadValue s5_BadValue "ValueError.__new__"))
    (sa_BadValue : PySem.W.findIn K (.ref C_BadValue) "__setattr__" = some (some (.builtin "object.__setattr__")))
    (ga_BadValue : PySem.W.findIn K (.ref C_BadValue) "__getattribute__" = some (some (.builtin "BaseException.__getattribute__")))
    (gg_BadValue : PySem.W.findIn K (.ref C_BadValue) "__getattr__" = some none)
    (eB_BadValue : PySem.W.subIn K (.ref C_BadValue) (.type "BaseException") = some true)
    (tC_BadValue : PySem.W.typeIn K (.ref C_BadValue) = some (.type "type"))
    (kC_BadValue : PySem.W.keepIn K (.ref C_BadValue) = true)
    (hd_BadValue : PySem.W.hasDictIn K C_BadValue = true)
    (hc_BadValue : PySem.W.findIn K (.ref C_BadValue) "__class__" = some (some (.builtin "object.__class__")))
    (mo_BadValue : PySem.W.mroIn K C_BadValue (.type "object") = some true)
    (no0_BadValue : PySem.W.findIn K (.ref C_BadValue) "what" = some none)
    (em_BadValue_BadValue : PySem.W.exmOne K (.ref C_BadValue) (.ref C_BadValue) = some true)
    (ki_BadValue_BadValue : PySem.W.kitOne K (.ref C_BadValue) (.ref C_BadValue) = some true)
    (em_BadValue_Missing : PySem.W.exmOne K (.ref C_BadValue) (.ref C_Missing) = some false)
    (ki_BadValue_Missing : PySem.W.kitOne K (.ref C_BadValue) (.ref C_Missing) = some false)
    (em_BadValue_Refused : PySem.W.exmOne K (.ref C_BadValue) (.ref C_Refused) = some false)
    (ki_BadValue_Refused : PySem.W.kitOne K (.ref C_BadValue) (.ref C_Refused) = some false)
    (em_BadValue_SnagError : PySem.W.exmOne K (.ref C_BadValue) (.ref C_SnagError) = some true)
    (ki_BadValue_SnagError : PySem.W.kitOne K (.ref C_BadValue) (.ref C_SnagError) = some true)
    (kb_BadValue_ValueError : PySem.W.kitOne K (.ref C_BadValue) (.type "ValueError") = some true)
    (iC_BadValue : PySem.W.findIn K (.ref C_BadValue) "__init__" = some (some (.ref fI_BadValue)))
    (tI_BadValue : PySem.W.typeIn K (.ref fI_BadValue) = some (.type "function"))
    (lI_BadValue : K.lookup fI_BadValue = some ⟨ocI_BadValue, odI_BadValue, .func (PySem.W.ksFn "__init__" "BadValue.__init__" (defArgs (inClass (top 2) 0)) (defBody (inClass (top 2) 0)) (defScope (inClass (top 2) 0)) .none .none dcI_BadValue pmI_BadValue anI_BadValue (.ref cda_BadValue) ctI_BadValue cc_BadValue), slI_BadValue⟩)
    (cI_BadValue : PySem.W.codeIn K (.ref cda_BadValue) "BadValue.__init__" = true)
    (lc_BadValue : K.lookup cda_BadValue = some ⟨cclI_BadValue, cddI_BadValue, .fields vsI_BadValue, ccsI_BadValue⟩)
    (lv_BadValue : vsI_BadValue[2]? = some (.str fileI_BadValue tfI_BadValue))
    (lf_BadValue : ((prg.main.file : Str) == fileI_BadValue) = true)
    (ll_BadValue : K.lookup cc_BadValue = some ⟨clI_BadValue, cldI_BadValue, .cell (some (.ref C_BadValue)), cslI_BadValue⟩)
    (su_BadValue : PySem.W.ks_superIn K C_BadValue C_BadValue "__init__" = some (some (.builtin "ValueError.__init__")))
    (iv_BadValue : PySem.W.subIn K (.ref C_BadValue) (.type "ValueError") = some true)
    (ms_BadValue : PySem.W.mroIn K C_BadValue (.ref C_BadValue) = some true)
    (x_Missing : K.lookup C_Missing = some (excClassObj nm_Missing q_Missing C_Missing N_Missing bs_Missing [.ref C_SnagError, .type "ValueError", .type "Exception", .type "BaseException", .type "object"] true sn_Missing sub_Missing ab_Missing col_Missing dd_Missing s0_Missing s1_Missing s2_Missing s3_Missing s5_Missing "ValueError.__new__"))
    (sa_Missing : PySem.W.findIn K (.ref C_Missing) "__setattr__" = some (some (.builtin "object.__setattr__")))
    (ga_Missing : PySem.W.findIn K (.ref C_Missing) "__getattribute__" = some (some (.builtin "BaseException.__getattribute__")))
    (gg_Missing : PySem.W.findIn K (.ref C_Missing) "__getattr__" = some none)
    (eB_Missing : PySem.W.subIn K (.ref C_Missing) (.type "BaseException") = some true)
    (tC_Missing : PySem.W.typeIn K (.ref C_Missing) = some (.type "type"))
    (kC_Missing : PySem.W.keepIn K (.ref C_Missing) = true)
    (hd_Missing : PySem.W.hasDictIn K C_Missing = true)
    (hc_Missing : PySem.W.findIn K (.ref C_Missing) "__class__" = some (some (.builtin "object.__class__")))
    (mo_Missing : PySem.W.mroIn K C_Missing (.type "object") = some true)
    (no0_Missing : PySem.W.findIn K (.ref C_Missing) "name" = some none)
    (em_Missing_BadValue : PySem.W.exmOne K (.ref C_Missing) (.ref C_BadValue) = some false)
    (ki_Missing_BadValue : PySem.W.kitOne K (.ref C_Missing) (.ref C_BadValue) = some false)
    (em_Missing_Missing : PySem.W.exmOne K (.ref C_Missing) (.ref C_Missing) = some true)
    (ki_Missing_Missing : PySem.W.kitOne K (.ref C_Missing) (.ref C_Missing) = some true)
    (em_Missing_Refused : PySem.W.exmOne K (.ref C_Missing) (.ref C_Refused) = some false)
    (ki_Missing_Refused : PySem.W.kitOne K (.ref C_Missing) (.ref C_Refused) = some false)
    (em_Missing_SnagError : PySem.W.exmOne K (.ref C_Missing) (.ref C_SnagError) = some true)
    (ki_Missing_SnagError : PySem.W.kitOne K (.ref C_Missing) (.ref C_SnagError) = some true)
    (kb_Missing_ValueError : PySem.W.kitOne K (.ref C_Missing) (.type "ValueError") = some true)
    (iC_Missing : PySem.W.findIn K (.ref C_Missing) "__init__" = some (some (.ref fI_Missing)))
    (tI_Missing : PySem.W.typeIn K (.ref fI_Missing) = some (.type "function"))
    (lI_Missing : K.lookup fI_Missing = some ⟨ocI_Missing, odI_Missing, .func (PySem.W.ksFn "__init__" "Missing.__init__" (defArgs (inClass (top 3) 0)) (defBody (inClass (top 3) 0)) (defScope (inClass (top 3) 0)) .none .none dcI_Missing pmI_Missing anI_Missing (.ref cda_Missing) ctI_Missing cc_Missing), slI_Missing⟩)
    (cI_Missing : PySem.W.codeIn K (.ref cda_Missing) "Missing.__init__" = true)
    (lc_Missing : K.lookup cda_Missing = some ⟨cclI_Missing, cddI_Missing, .fields vsI_Missing, ccsI_Missing⟩)
    (lv_Missing : vsI_Missing[2]? = some (.str fileI_Missing tfI_Missing))
    (lf_Missing : ((prg.main.file : Str) == fileI_Missing) = true)
    (ll_Missing : K.lookup cc_Missing = some ⟨clI_Missing, cldI_Missing, .cell (some (.ref C_Missing)), cslI_Missing⟩)
    (su_Missing : PySem.W.ks_superIn K C_Missing C_Missing "__init__" = some (some (.builtin "ValueError.__init__")))
    (iv_Missing : PySem.W.subIn K (.ref C_Missing) (.type "ValueError") = some true)
    (ms_Missing : PySem.W.mroIn K C_Missing (.ref C_Missing) = some true)
    (x_Refused : K.lookup C_Refused = some (excClassObj nm_Refused q_Refused C_Refused N_Refused bs_Refused [.ref C_SnagError, .type "ValueError", .type "Exception", .type "BaseException", .type "object"] true sn_Refused sub_Refused ab_Refused col_Refused dd_Refused s0_Refused s1_Refused s2_Refused s3_Refused s5_Refused "ValueError.__new__"))
    (sa_Refused : PySem.W.findIn K (.ref C_Refused) "__setattr__" = some (some (.builtin "object.__setattr__")))
    (ga_Refused : PySem.W.findIn K (.ref C_Refused) "__getattribute__" = some (some (.builtin "BaseException.__getattribute__")))
    (gg_Refused : PySem.W.findIn K (.ref C_Refused) "__getattr__" = some none)
    (eB_Refused : PySem.W.subIn K (.ref C_Refused) (.type "BaseException") = some true)
    (tC_Refused : PySem.W.typeIn K (.ref C_Refused) = some (.type "type"))
    (kC_Refused : PySem.W.keepIn K (.ref C_Refused) = true)
    (hd_Refused : PySem.W.hasDictIn K C_Refused = true)
    (hc_Refused : PySem.W.findIn K (.ref C_Refused) "__class__" = some (some (.builtin "object.__class__")))
    (mo_Refused : PySem.W.mroIn K C_Refused (.type "object") = some true)
    (no0_Refused : PySem.W.findIn K (.ref C_Refused) "reason" = some none)
    (em_Refused_BadValue : PySem.W.exmOne K (.ref C_Refused) (.ref C_BadValue) = some false)
    (ki_Refused_BadValue : PySem.W.kitOne K (.ref C_Refused) (.ref C_BadValue) = some false)
    (em_Refused_Missing : PySem.W.exmOne K (.ref C_Refused) (.ref C_Missing) = some false)
    (ki_Refused_Missing : PySem.W.kitOne K (.ref C_Refused) (.ref C_Missing) = some false)
    (em_Refused_Refused : PySem.W.exmOne K (.ref C_Refused) (.ref C_Refused) = some true)
    (ki_Refused_Refused : PySem.W.kitOne K (.ref C_Refused) (.ref C_Refused) = some true)
    (em_Refused_SnagError : PySem.W.exmOne K (.ref C_Refused) (.ref C_SnagError) = some true)
    (ki_Refused_SnagError : PySem.W.kitOne K (.ref C_Refused) (.ref C_SnagError) = some true)
    (kb_Refused_ValueError : PySem.W.kitOne K (.ref C_Refused) (.type "ValueError") = some true)
    (iC_Refused : PySem.W.findIn K (.ref C_Refused) "__init__" = some (some (.ref fI_Refused)))
    (tI_Refused : PySem.W.typeIn K (.ref fI_Refused) = some (.type "function"))
    (lI_Refused : K.lookup fI_Refused = some ⟨ocI_Refused, odI_Refused, .func (PySem.W.ksFn "__init__" "Refused.__init__" (defArgs (inClass (top 4) 0)) (defBody (inClass (top 4) 0)) (defScope (inClass (top 4) 0)) .none .none dcI_Refused pmI_Refused anI_Refused (.ref cda_Refused) ctI_Refused cc_Refused), slI_Refused⟩)
    (cI_Refused : PySem.W.codeIn K (.ref cda_Refused) "Refused.__init__" = true)
    (lc_Refused : K.lookup cda_Refused = some ⟨cclI_Refused, cddI_Refused, .fields vsI_Refused, ccsI_Refused⟩)
    (lv_Refused : vsI_Refused[2]? = some (.str fileI_Refused tfI_Refused))
    (lf_Refused : ((prg.main.file : Str) == fileI_Refused) = true)
    (ll_Refused : K.lookup cc_Refused = some ⟨clI_Refused, cldI_Refused, .cell (some (.ref C_Refused)), cslI_Refused⟩)
    (su_Refused : PySem.W.ks_superIn K C_Refused C_Refused "__init__" = some (some (.builtin "ValueError.__init__")))
    (iv_Refused : PySem.W.subIn K (.ref C_Refused) (.type "ValueError") = some true)
    (ms_Refused : PySem.W.mroIn K C_Refused (.ref C_Refused) = some true)
    (sn : PySem.W.specialIn K (.builtin "object.__class__") "__get__" = some (some (.builtin "getset_descriptor.__get__")))
    (tk : PySem.W.takesIn K (.builtin "object.__class__") = some true)
    (opq : PySem.W.nsIn K cStatics "thirdparty.any" = some none)
    : ∃ fd : FuncData, (∀ (s : Shared) (v : Value), BindsTo s fd ⟨[v], []⟩ [("script", v)]) ∧ ∀ base : Heap, K.In base → base.Ns mainGlobals mg → FnOk prg w K mg base (L2.CX prg w) 123 fa fd ["script"] (spLaw K) := by
  have e := hfa.symm.trans (PySem.W.mg_of X G a31)
  cases e
  have nn_BadValue : ∀ f ∈ (["what"] : List Str), PySem.W.findIn K (.ref C_BadValue) f = some none := by
    intro f hf
    simp only [List.mem_cons, List.not_mem_nil, or_false] at hf
    rcases hf with rfl
    · exact no0_BadValue
  have oex_BadValue : OexC K C_BadValue := { cls := ⟨_, _, _, _, _, _, _, _, _, _, _, _, _, _, _, x_BadValue, rfl⟩, sa := sa_BadValue, exC := eB_BadValue, tyC := tC_BadValue, kC := kC_BadValue }
  have xt_BadValue : XTxt K prg C_BadValue ["what"] fI_BadValue cda_BadValue cc_BadValue := { oex := oex_BadValue, noN := nn_BadValue, iC := iC_BadValue, tI := tI_BadValue, fn := ⟨_, _, _, _, _, _, _, _, _, _, _, _, _, _, _, _, _, _, _, lI_BadValue, cI_BadValue, (.cons .nil), rfl, rfl, rfl, (by decide +kernel), (by decide +kernel), rfl, rfl, rfl, ⟨_, rfl, rfl⟩, (fun env => ⟨_, rfl⟩), (fun us hl x => match us, hl with | [_], _ => rfl)⟩, nd := by decide, ns := by decide, nc := by decide, code := ⟨_, _, _, _, _, _, lc_BadValue, lv_BadValue, lf_BadValue⟩, cell := ⟨_, _, _, ll_BadValue⟩, sup := su_BadValue, isV := iv_BadValue, opq := opq, sub := ms_BadValue, top := rfl }
  have nn_Missing : ∀ f ∈ (["name"] : List Str), PySem.W.findIn K (.ref C_Missing) f = some none := by
    intro f hf
    simp only [List.mem_cons, List.not_mem_nil, or_false] at hf
    rcases hf with rfl
    · exact no0_Missing
  have oex_Missing : OexC K C_Missing := { cls := ⟨_, _, _, _, _, _, _, _, _, _, _, _, _, _, _, x_Missing, rfl⟩, sa := sa_Missing, exC := eB_Missing, tyC := tC_Missing, kC := kC_Missing }
  have xt_Missing : XTxt K prg C_Missing ["name"] fI_Missing cda_Missing cc_Missing := { oex := oex_Missing, noN := nn_Missing, iC := iC_Missing, tI := tI_Missing, fn := ⟨_, _, _, _, _, _, _, _, _, _, _, _, _, _, _, _, _, _, _, lI_Missing, cI_Missing, (.cons .nil), rfl, rfl, rfl, (by decide +kernel), (by decide +kernel), rfl, rfl, rfl, ⟨_, rfl, rfl⟩, (fun env => ⟨_, rfl⟩), (fun us hl x => match us, hl with | [_], _ => rfl)⟩, nd := by decide, ns := by decide, nc := by decide, code := ⟨_, _, _, _, _, _, lc_Missing, lv_Missing, lf_Missing⟩, cell := ⟨_, _, _, ll_Missing⟩, sup := su_Missing, isV := iv_Missing, opq := opq, sub := ms_Missing, top := rfl }
  have nn_Refused : ∀ f ∈ (["reason"] : List Str), PySem.W.findIn K (.ref C_Refused) f = some none := by
    intro f hf
    simp only [List.mem_cons, List.not_mem_nil, or_false] at hf
    rcases hf with rfl
    · exact no0_Refused
  have oex_Refused : OexC K C_Refused := { cls := ⟨_, _, _, _, _, _, _, _, _, _, _, _, _, _, _, x_Refused, rfl⟩, sa := sa_Refused, exC := eB_Refused, tyC := tC_Refused, kC := kC_Refused }
  have xt_Refused : XTxt K prg C_Refused ["reason"] fI_Refused cda_Refused cc_Refused := { oex := oex_Refused, noN := nn_Refused, iC := iC_Refused, tI := tI_Refused, fn := ⟨_, _, _, _, _, _, _, _, _, _, _, _, _, _, _, _, _, _, _, lI_Refused, cI_Refused, (.cons .nil), rfl, rfl, rfl, (by decide +kernel), (by decide +kernel), rfl, rfl, rfl, ⟨_, rfl, rfl⟩, (fun env => ⟨_, rfl⟩), (fun us hl x => match us, hl with | [_], _ => rfl)⟩, nd := by decide, ns := by decide, nc := by decide, code := ⟨_, _, _, _, _, _, lc_Refused, lv_Refused, lf_Refused⟩, cell := ⟨_, _, _, ll_Refused⟩, sup := su_Refused, isV := iv_Refused, opq := opq, sub := ms_Refused, top := rfl }
  have xf_BadValue : XfC K C_BadValue := ⟨ga_BadValue, gg_BadValue, eB_BadValue, hd_BadValue⟩
  have ex_BadValue : ExcC K C_BadValue := ⟨ga_BadValue, gg_BadValue, eB_BadValue, hd_BadValue, hc_BadValue, sn, tk, mo_BadValue⟩
  have xf_Missing : XfC K C_Missing := ⟨ga_Missing, gg_Missing, eB_Missing, hd_Missing⟩
  have ex_Missing : ExcC K C_Missing := ⟨ga_Missing, gg_Missing, eB_Missing, hd_Missing, hc_Missing, sn, tk, mo_Missing⟩
  have xf_Refused : XfC K C_Refused := ⟨ga_Refused, gg_Refused, eB_Refused, hd_Refused⟩
  have ex_Refused : ExcC K C_Refused := ⟨ga_Refused, gg_Refused, eB_Refused, hd_Refused, hc_Refused, sn, tk, mo_Refused⟩
  have hCL : ∀ (k : Nat) (y : XC), ([⟨C_BadValue, ["what"]⟩, ⟨C_Missing, ["name"]⟩, ⟨C_Refused, ["reason"]⟩] : List XC)[k]? = some y → (k = 0 ∧ y = ⟨C_BadValue, ["what"]⟩) ∨ (k = 1 ∧ y = ⟨C_Missing, ["name"]⟩) ∨ (k = 2 ∧ y = ⟨C_Refused, ["reason"]⟩) := by
    intro k y h
    match k, h with
    | 0, h => simpa using (Option.some.inj h).symm
    | 1, h => simpa using (Option.some.inj h).symm
    | 2, h => simpa using (Option.some.inj h).symm
    | n + 3, h => simp at h
  have GG : Good prg w K mg [⟨C_BadValue, ["what"]⟩, ⟨C_Missing, ["name"]⟩, ⟨C_Refused, ["reason"]⟩] := {
    n_ValueError := PySem.W.mg_none_of X G z_ValueError,
    n_all := PySem.W.mg_none_of X G z_all,
    n_any := PySem.W.mg_none_of X G z_any,
    n_bool := PySem.W.mg_none_of X G z_bool,
    n_int := PySem.W.mg_none_of X G z_int,
    n_isinstance := PySem.W.mg_none_of X G z_isinstance,
    n_len := PySem.W.mg_none_of X G z_len,
    n_min := PySem.W.mg_none_of X G z_min,
    n_range := PySem.W.mg_none_of X G z_range,
    n_str := PySem.W.mg_none_of X G z_str,
    n_super := PySem.W.mg_none_of X G z_super,
    n_tuple := PySem.W.mg_none_of X G z_tuple,
    c_MOST_LENGTH := ⟨(V.int 30), _, PySem.W.mg_of X G v_MOST_LENGTH, ⟨_, rfl⟩, (.int _)⟩,
    c_NEVER := ⟨(V.int 1000000000), _, PySem.W.mg_of X G v_NEVER, ⟨_, rfl⟩, (.int _)⟩,
    a_BadValue := C_BadValue,
    g_BadValue := PySem.W.mg_of X G g_BadValue,
    a_Missing := C_Missing,
    g_Missing := PySem.W.mg_of X G g_Missing,
    a_Refused := C_Refused,
    g_Refused := PySem.W.mg_of X G g_Refused,
    a_SnagError := C_SnagError,
    g_SnagError := PySem.W.mg_of X G g_SnagError,
    xall := ⟨(by
    intro k y h
    rcases hCL k y h with ⟨rfl, rfl⟩ | ⟨rfl, rfl⟩ | ⟨rfl, rfl⟩
    · exact rfl
    · exact rfl
    · exact rfl),
    (by
    intro k y h
    rcases hCL k y h with ⟨rfl, rfl⟩ | ⟨rfl, rfl⟩ | ⟨rfl, rfl⟩
    · exact xf_BadValue
    · exact xf_Missing
    · exact xf_Refused),
    (by
    intro k y h
    rcases hCL k y h with ⟨rfl, rfl⟩ | ⟨rfl, rfl⟩ | ⟨rfl, rfl⟩
    · exact nn_BadValue
    · exact nn_Missing
    · exact nn_Refused),
    (by
    intro k y h
    rcases hCL k y h with ⟨rfl, rfl⟩ | ⟨rfl, rfl⟩ | ⟨rfl, rfl⟩
    · exact ex_BadValue
    · exact ex_Missing
    · exact ex_Refused)⟩,
    e_BadValue := (by
    intro k y b h hb
    rcases hCL k y h with ⟨rfl, rfl⟩ | ⟨rfl, rfl⟩ | ⟨rfl, rfl⟩
    · cases (Option.some.inj hb); exact em_BadValue_BadValue
    · cases (Option.some.inj hb); exact em_Missing_BadValue
    · cases (Option.some.inj hb); exact em_Refused_BadValue),
    i_BadValue := (by
    intro k y h
    rcases hCL k y h with ⟨rfl, rfl⟩ | ⟨rfl, rfl⟩ | ⟨rfl, rfl⟩
    · exact ki_BadValue_BadValue
    · exact ki_Missing_BadValue
    · exact ki_Refused_BadValue),
    e_Missing := (by
    intro k y b h hb
    rcases hCL k y h with ⟨rfl, rfl⟩ | ⟨rfl, rfl⟩ | ⟨rfl, rfl⟩
    · cases (Option.some.inj hb); exact em_BadValue_Missing
    · cases (Option.some.inj hb); exact em_Missing_Missing
    · cases (Option.some.inj hb); exact em_Refused_Missing),
    i_Missing := (by
    intro k y h
    rcases hCL k y h with ⟨rfl, rfl⟩ | ⟨rfl, rfl⟩ | ⟨rfl, rfl⟩
    · exact ki_BadValue_Missing
    · exact ki_Missing_Missing
    · exact ki_Refused_Missing),
    e_Refused := (by
    intro k y b h hb
    rcases hCL k y h with ⟨rfl, rfl⟩ | ⟨rfl, rfl⟩ | ⟨rfl, rfl⟩
    · cases (Option.some.inj hb); exact em_BadValue_Refused
    · cases (Option.some.inj hb); exact em_Missing_Refused
    · cases (Option.some.inj hb); exact em_Refused_Refused),
    i_Refused := (by
    intro k y h
    rcases hCL k y h with ⟨rfl, rfl⟩ | ⟨rfl, rfl⟩ | ⟨rfl, rfl⟩
    · exact ki_BadValue_Refused
    · exact ki_Missing_Refused
    · exact ki_Refused_Refused),
    e_SnagError := (by
    intro k y b h hb
    rcases hCL k y h with ⟨rfl, rfl⟩ | ⟨rfl, rfl⟩ | ⟨rfl, rfl⟩
    · cases (Option.some.inj hb); exact em_BadValue_SnagError
    · cases (Option.some.inj hb); exact em_Missing_SnagError
    · cases (Option.some.inj hb); exact em_Refused_SnagError),
    i_SnagError := (by
    intro k y h
    rcases hCL k y h with ⟨rfl, rfl⟩ | ⟨rfl, rfl⟩ | ⟨rfl, rfl⟩
    · exact ki_BadValue_SnagError
    · exact ki_Missing_SnagError
    · exact ki_Refused_SnagError),
    i_ValueError := (by
    intro k y h
    rcases hCL k y h with ⟨rfl, rfl⟩ | ⟨rfl, rfl⟩ | ⟨rfl, rfl⟩
    · exact kb_BadValue_ValueError
    · exact kb_Missing_ValueError
    · exact kb_Refused_ValueError),
    f_BadValue := (fI_BadValue, cda_BadValue, cc_BadValue),
    x_BadValue := xt_BadValue,
    hc_BadValue := rfl,
    f_Missing := (fI_Missing, cda_Missing, cc_Missing),
    x_Missing := xt_Missing,
    hc_Missing := rfl,
    f_Refused := (fI_Refused, cda_Refused, cc_Refused),
    x_Refused := xt_Refused,
    hc_Refused := rfl }
  have F0 := fun_mk (st := top 8) l0 c0 k0
  have b0 := F0.binds (ps := [("value" : Str)]) fun _ _ _ _ _ _ us hl => match us, hl with | [_], _ => rfl
  have F1 := fun_mk (st := top 9) l1 c1 k1
  have b1 := F1.binds (ps := [("value" : Str), ("low" : Str), ("high" : Str)]) fun _ _ _ _ _ _ us hl => match us, hl with | [_, _, _], _ => rfl
  have F2 := fun_mk (st := top 11) l2 c2 k2
  have b2 := F2.binds (ps := [("flow" : Str), ("state" : Str)]) fun _ _ _ _ _ _ us hl => match us, hl with | [_, _], _ => rfl
  have F3 := fun_mk (st := top 12) l3 c3 k3
  have b3 := F3.binds (ps := [("flow" : Str), ("state" : Str)]) fun _ _ _ _ _ _ us hl => match us, hl with | [_, _], _ => rfl
  have F4 := fun_mk (st := top 13) l4 c4 k4
  have b4 := F4.binds (ps := [("flow" : Str), ("state" : Str), ("name" : Str)]) fun _ _ _ _ _ _ us hl => match us, hl with | [_, _, _], _ => rfl
  have F5 := fun_mk (st := top 15) l5 c5 k5
  have b5 := F5.binds (ps := [("flow" : Str), ("state" : Str)]) fun _ _ _ _ _ _ us hl => match us, hl with | [_, _], _ => rfl
  have F6 := fun_mk (st := top 16) l6 c6 k6
  have b6 := F6.binds (ps := [("flow" : Str), ("state" : Str), ("avoided" : Str)]) fun _ _ _ _ _ _ us hl => match us, hl with | [_, _, _], _ => rfl
  have F7 := fun_mk (st := top 17) l7 c7 k7
  have b7 := F7.binds (ps := [("flow" : Str)]) fun _ _ _ _ _ _ us hl => match us, hl with | [_], _ => rfl
  have F8 := fun_mk (st := top 18) l8 c8 k8
  have b8 := F8.binds (ps := [("flow" : Str), ("target" : Str)]) fun _ _ _ _ _ _ us hl => match us, hl with | [_, _], _ => rfl
  have F9 := fun_mk (st := top 19) l9 c9 k9
  have b9 := F9.binds (ps := [("flow" : Str), ("state" : Str), ("names" : Str)]) fun _ _ _ _ _ _ us hl => match us, hl with | [_, _, _], _ => rfl
  have F10 := fun_mk (st := top 20) l10 c10 k10
  have b10 := F10.binds (ps := [("flow" : Str), ("source" : Str), ("target" : Str)]) fun _ _ _ _ _ _ us hl => match us, hl with | [_, _, _], _ => rfl
  have F11 := fun_mk (st := top 21) l11 c11 k11
  have b11 := F11.binds (ps := [("flow" : Str), ("source" : Str), ("target" : Str), ("length" : Str)]) fun _ _ _ _ _ _ us hl => match us, hl with | [_, _, _, _], _ => rfl
  have F12 := fun_mk (st := top 22) l12 c12 k12
  have b12 := F12.binds (ps := [("flow" : Str), ("state" : Str)]) fun _ _ _ _ _ _ us hl => match us, hl with | [_, _], _ => rfl
  have F13 := fun_mk (st := top 23) l13 c13 k13
  have b13 := F13.binds (ps := [("flow" : Str), ("state" : Str)]) fun _ _ _ _ _ _ us hl => match us, hl with | [_, _], _ => rfl
  have F14 := fun_mk (st := top 25) l14 c14 k14
  have b14 := F14.binds (ps := [("script" : Str), ("k" : Str)]) fun _ _ _ _ _ _ us hl => match us, hl with | [_, _], _ => rfl
  have F15 := fun_mk (st := top 26) l15 c15 k15
  have b15 := F15.binds (ps := [("cell" : Str), ("sizes" : Str)]) fun _ _ _ _ _ _ us hl => match us, hl with | [_, _], _ => rfl
  have F16 := fun_mk (st := top 27) l16 c16 k16
  have b16 := F16.binds (ps := [("cell" : Str), ("count" : Str)]) fun _ _ _ _ _ _ us hl => match us, hl with | [_, _], _ => rfl
  have F17 := fun_mk (st := top 28) l17 c17 k17
  have b17 := F17.binds (ps := [("cell" : Str), ("states" : Str), ("names" : Str), ("roles" : Str)]) fun _ _ _ _ _ _ us hl => match us, hl with | [_, _, _, _], _ => rfl
  have F18 := fun_mk (st := top 29) l18 c18 k18
  have b18 := F18.binds (ps := [("told" : Str), ("due" : Str)]) fun _ _ _ _ _ _ us hl => match us, hl with | [_, _], _ => rfl
  have F19 := fun_mk (st := top 30) l19 c19 k19
  have b19 := F19.binds (ps := [("flow" : Str), ("state" : Str), ("avoided" : Str)]) fun _ _ _ _ _ _ us hl => match us, hl with | [_, _, _], _ => rfl
  have F20 := fun_mk (st := top 31) l20 c20 k20
  have b20 := F20.binds (ps := [("flow" : Str), ("state" : Str), ("avoided" : Str)]) fun _ _ _ _ _ _ us hl => match us, hl with | [_, _, _], _ => rfl
  have F21 := fun_mk (st := top 32) l21 c21 k21
  have b21 := F21.binds (ps := [("flow" : Str), ("source" : Str), ("target" : Str)]) fun _ _ _ _ _ _ us hl => match us, hl with | [_, _, _], _ => rfl
  have F22 := fun_mk (st := top 33) l22 c22 k22
  have b22 := F22.binds (ps := [("flow" : Str), ("source" : Str), ("target" : Str), ("length" : Str)]) fun _ _ _ _ _ _ us hl => match us, hl with | [_, _, _, _], _ => rfl
  have F23 := fun_mk (st := top 34) l23 c23 k23
  have b23 := F23.binds (ps := [("flow" : Str), ("state" : Str)]) fun _ _ _ _ _ _ us hl => match us, hl with | [_, _], _ => rfl
  have F24 := fun_mk (st := top 35) l24 c24 k24
  have b24 := F24.binds (ps := [("flow" : Str), ("state" : Str), ("row" : Str), ("names" : Str)]) fun _ _ _ _ _ _ us hl => match us, hl with | [_, _, _, _], _ => rfl
  have F25 := fun_mk (st := top 36) l25 c25 k25
  have b25 := F25.binds (ps := [("flow" : Str), ("state" : Str), ("trip" : Str)]) fun _ _ _ _ _ _ us hl => match us, hl with | [_, _, _], _ => rfl
  have F26 := fun_mk (st := top 37) l26 c26 k26
  have b26 := F26.binds (ps := [("which" : Str), ("flow" : Str), ("state" : Str), ("other" : Str), ("more" : Str)]) fun _ _ _ _ _ _ us hl => match us, hl with | [_, _, _, _, _], _ => rfl
  have F27 := fun_mk (st := top 38) l27 c27 k27
  have b27 := F27.binds (ps := [("which" : Str), ("flow" : Str), ("state" : Str), ("other" : Str), ("more" : Str)]) fun _ _ _ _ _ _ us hl => match us, hl with | [_, _, _, _, _], _ => rfl
  have F28 := fun_mk (st := top 39) l28 c28 k28
  have b28 := F28.binds (ps := [("flow" : Str), ("state" : Str)]) fun _ _ _ _ _ _ us hl => match us, hl with | [_, _], _ => rfl
  have F29 := fun_mk (st := top 40) l29 c29 k29
  have b29 := F29.binds (ps := [("flow" : Str), ("state" : Str), ("other" : Str), ("length" : Str)]) fun _ _ _ _ _ _ us hl => match us, hl with | [_, _, _, _], _ => rfl
  have F30 := fun_mk (st := top 41) l30 c30 k30
  have b30 := F30.binds (ps := [("flow" : Str), ("state" : Str), ("first" : Str), ("second" : Str), ("length" : Str), ("trip" : Str)]) fun _ _ _ _ _ _ us hl => match us, hl with | [_, _, _, _, _, _], _ => rfl
  have F31 := fun_mk (st := top 42) l31 c31 k31
  have b31 := F31.binds (ps := [("script" : Str)]) fun _ _ _ _ _ _ us hl => match us, hl with | [_], _ => rfl
  refine ⟨PySem.W.fnOf "law" "law" (defArgs (top 42)) (defBody (top 42)) (defScope (top 42)) .none kV31 dc31 pm31 an31 cd31 ct31, fun s v => .of_eq rfl, fun base _ _ => ?_⟩
  have all : ∀ e ∈ tab, RowOk prg w K mg base [⟨C_BadValue, ["what"]⟩, ⟨C_Missing, ["name"]⟩, ⟨C_Refused, ["reason"]⟩] tab 23 e := by
    intro e he
    unfold tab at he
    simp only [List.mem_cons, List.not_mem_nil, or_false] at he
    rcases he with rfl | rfl | rfl | rfl | rfl | rfl | rfl | rfl | rfl | rfl | rfl | rfl | rfl | rfl | rfl | rfl | rfl | rfl | rfl | rfl | rfl | rfl | rfl | rfl | rfl | rfl | rfl | rfl | rfl | rfl | rfl | rfl
    · exact row_is_whole GG F0 (PySem.W.mg_of X G a0) b0
    · exact row_is_between GG F1 (PySem.W.mg_of X G a1) b1
    · exact row_require_state GG F2 (PySem.W.mg_of X G a2) b2
    · exact row_ways_from GG F3 (PySem.W.mg_of X G a3) b3
    · exact row_find_way GG F4 (PySem.W.mg_of X G a4) b4
    · exact row_reachable GG F5 (PySem.W.mg_of X G a5) b5
    · exact row_reaches_closed GG F6 (PySem.W.mg_of X G a6) b6
    · exact row_dead_states GG F7 (PySem.W.mg_of X G a7) b7
    · exact row_distances GG F8 (PySem.W.mg_of X G a8) b8
    · exact row_walk_along GG F9 (PySem.W.mg_of X G a9) b9
    · exact row_shortest_walk GG F10 (PySem.W.mg_of X G a10) b10
    · exact row_count_walks GG F11 (PySem.W.mg_of X G a11) b11
    · exact row_must_pass GG F12 (PySem.W.mg_of X G a12) b12
    · exact row_least_days GG F13 (PySem.W.mg_of X G a13) b13
    · exact row__law_cell GG F14 (PySem.W.mg_of X G a14) b14
    · exact row__law_digits GG F15 (PySem.W.mg_of X G a15) b15
    · exact row__law_names GG F16 (PySem.W.mg_of X G a16) b16
    · exact row__law_flow GG F17 (PySem.W.mg_of X G a17) b17
    · exact row__law_same GG F18 (PySem.W.mg_of X G a18) b18
    · exact row__law_reach GG F19 (PySem.W.mg_of X G a19) b19
    · exact row__law_saved GG F20 (PySem.W.mg_of X G a20) b20
    · exact row__law_shortest GG F21 (PySem.W.mg_of X G a21) b21
    · exact row__law_counted GG F22 (PySem.W.mg_of X G a22) b22
    · exact row__law_least GG F23 (PySem.W.mg_of X G a23) b23
    · exact row__law_trip GG F24 (PySem.W.mg_of X G a24) b24
    · exact row__law_along GG F25 (PySem.W.mg_of X G a25) b25
    · exact row__law_asked GG F26 (PySem.W.mg_of X G a26) b26
    · exact row__law_told GG F27 (PySem.W.mg_of X G a27) b27
    · exact row__law_state_told GG F28 (PySem.W.mg_of X G a28) b28
    · exact row__law_pair_told GG F29 (PySem.W.mg_of X G a29) b29
    · exact row__law_strangers_told GG F30 (PySem.W.mg_of X G a30) b30
    · exact row_law GG F31 (PySem.W.mg_of X G a31) b31
  have ok := all_ok all 99
  exact (fn_ok (F := ⟨1, 11, b_law⟩) F31 ⟨rfl, rfl, rfl, by decide +kernel, rfl, by decide +kernel, by decide +kernel⟩ rfl rfl (fun cdv A outer s H E hr => d_law GG (by omega) ok hr)).imp (law_sp law_true)
end K04
open PySem PySem.W PyProof.Rows
set_option maxHeartbeats 0 in
theorem PySem.Challenge.cw_snagdesk_k04_walks_holds : PySem.Challenge.rw_snagdesk_k04_walks.Holds := by
  w_on; o_law; k_head; (case hw => w_witness2)
  k_fill
  refine L2.walk_of (l := PySem.Challenge.rw_snagdesk_k04_walks) (n := 63) (k := 123) (x := "script") (CX := fun w => L2.CX K04.prg w) (sp := fun w => K04.spLaw _) rfl (by decide) rfl ⟨rfl, by decide, by decide⟩ (fun w h Y => PySem.W.kIn_of Y) ?F (fun _ _ a ns hl _ hS => ⟨a, ns, rfl, hl, hS, fun _ => rfl⟩) (fun w H s e s' h => by obtain ⟨_, _, _, _, _, _, _, _, _, _, _, _, z⟩ := h; exact z)
  case F =>
    intro w mg fa h KX G hmg
    refine' K04.all_mk KX G hmg ?a0 ?l0 ?c0 ?k0 ?a1 ?l1 ?c1 ?k1 ?a2 ?l2 ?c2 ?k2 ?a3 ?l3 ?c3 ?k3 ?a4 ?l4 ?c4 ?k4 ?a5 ?l5 ?c5 ?k5 ?a6 ?l6 ?c6 ?k6 ?a7 ?l7 ?c7 ?k7 ?a8 ?l8 ?c8 ?k8 ?a9 ?l9 ?c9 ?k9 ?a10 ?l10 ?c10 ?k10 ?a11 ?l11 ?c11 ?k11 ?a12 ?l12 ?c12 ?k12 ?a13 ?l13 ?c13 ?k13 ?a14 ?l14 ?c14 ?k14 ?a15 ?l15 ?c15 ?k15 ?a16 ?l16 ?c16 ?k16 ?a17 ?l17 ?c17 ?k17 ?a18 ?l18 ?c18 ?k18 ?a19 ?l19 ?c19 ?k19 ?a20 ?l20 ?c20 ?k20 ?a21 ?l21 ?c21 ?k21 ?a22 ?l22 ?c22 ?k22 ?a23 ?l23 ?c23 ?k23 ?a24 ?l24 ?c24 ?k24 ?a25 ?l25 ?c25 ?k25 ?a26 ?l26 ?c26 ?k26 ?a27 ?l27 ?c27 ?k27 ?a28 ?l28 ?c28 ?k28 ?a29 ?l29 ?c29 ?k29 ?a30 ?l30 ?c30 ?k30 ?a31 ?l31 ?c31 ?k31 ?z_ValueError ?z_all ?z_any ?z_bool ?z_int ?z_isinstance ?z_len ?z_min ?z_range ?z_str ?z_super ?z_tuple ?v_MOST_LENGTH ?v_NEVER ?g_BadValue ?g_Missing ?g_Refused ?g_SnagError ?x_BadValue ?sa_BadValue ?ga_BadValue ?gg_BadValue ?eB_BadValue ?tC_BadValue ?kC_BadValue ?hd_BadValue ?hc_BadValue ?mo_BadValue ?no0_BadValue ?em_BadValue_BadValue ?ki_BadValue_BadValue ?em_BadValue_Missing ?ki_BadValue_Missing ?em_BadValue_Refused ?ki_BadValue_Refused ?em_BadValue_SnagError ?ki_BadValue_SnagError ?kb_BadValue_ValueError ?iC_BadValue ?tI_BadValue ?lI_BadValue ?cI_BadValue ?lc_BadValue ?lv_BadValue ?lf_BadValue ?ll_BadValue ?su_BadValue ?iv_BadValue ?ms_BadValue ?x_Missing ?sa_Missing ?ga_Missing ?gg_Missing ?eB_Missing ?tC_Missing ?kC_Missing ?hd_Missing ?hc_Missing ?mo_Missing ?no0_Missing ?em_Missing_BadValue ?ki_Missing_BadValue ?em_Missing_Missing ?ki_Missing_Missing ?em_Missing_Refused ?ki_Missing_Refused ?em_Missing_SnagError ?ki_Missing_SnagError ?kb_Missing_ValueError ?iC_Missing ?tI_Missing ?lI_Missing ?cI_Missing ?lc_Missing ?lv_Missing ?lf_Missing ?ll_Missing ?su_Missing ?iv_Missing ?ms_Missing ?x_Refused ?sa_Refused ?ga_Refused ?gg_Refused ?eB_Refused ?tC_Refused ?kC_Refused ?hd_Refused ?hc_Refused ?mo_Refused ?no0_Refused ?em_Refused_BadValue ?ki_Refused_BadValue ?em_Refused_Missing ?ki_Refused_Missing ?em_Refused_Refused ?ki_Refused_Refused ?em_Refused_SnagError ?ki_Refused_SnagError ?kb_Refused_ValueError ?iC_Refused ?tI_Refused ?lI_Refused ?cI_Refused ?lc_Refused ?lv_Refused ?lf_Refused ?ll_Refused ?su_Refused ?iv_Refused ?ms_Refused ?sn ?tk ?opq
    (case a0 => k_is)
    (case l0 => k_is)
    (case c0 => k_is)
    (case k0 => k_is)
    (case a1 => k_is)
    (case l1 => k_is)
    (case c1 => k_is)
    (case k1 => k_is)
    (case a2 => k_is)
    (case l2 => k_is)
    (case c2 => k_is)
    (case k2 => k_is)
    (case a3 => k_is)
    (case l3 => k_is)
    (case c3 => k_is)
    (case k3 => k_is)
    (case a4 => k_is)
    (case l4 => k_is)
    (case c4 => k_is)
    (case k4 => k_is)
    (case a5 => k_is)
    (case l5 => k_is)
    (case c5 => k_is)
    (case k5 => k_is)
    (case a6 => k_is)
    (case l6 => k_is)
    (case c6 => k_is)
    (case k6 => k_is)
    (case a7 => k_is)
    (case l7 => k_is)
    (case c7 => k_is)
    (case k7 => k_is)
    (case a8 => k_is)
    (case l8 => k_is)
    (case c8 => k_is)
    (case k8 => k_is)
    (case a9 => k_is)
    (case l9 => k_is)
    (case c9 => k_is)
    (case k9 => k_is)
    (case a10 => k_is)
    (case l10 => k_is)
    (case c10 => k_is)
    (case k10 => k_is)
    (case a11 => k_is)
    (case l11 => k_is)
    (case c11 => k_is)
    (case k11 => k_is)
    (case a12 => k_is)
    (case l12 => k_is)
    (case c12 => k_is)
    (case k12 => k_is)
    (case a13 => k_is)
    (case l13 => k_is)
    (case c13 => k_is)
    (case k13 => k_is)
    (case a14 => k_is)
    (case l14 => k_is)
    (case c14 => k_is)
    (case k14 => k_is)
    (case a15 => k_is)
    (case l15 => k_is)
    (case c15 => k_is)
    (case k15 => k_is)
    (case a16 => k_is)
    (case l16 => k_is)
    (case c16 => k_is)
    (case k16 => k_is)
    (case a17 => k_is)
    (case l17 => k_is)
    (case c17 => k_is)
    (case k17 => k_is)
    (case a18 => k_is)
    (case l18 => k_is)
    (case c18 => k_is)
    (case k18 => k_is)
    (case a19 => k_is)
    (case l19 => k_is)
    (case c19 => k_is)
    (case k19 => k_is)
    (case a20 => k_is)
    (case l20 => k_is)
    (case c20 => k_is)
    (case k20 => k_is)
    (case a21 => k_is)
    (case l21 => k_is)
    (case c21 => k_is)
    (case k21 => k_is)
    (case a22 => k_is)
    (case l22 => k_is)
    (case c22 => k_is)
    (case k22 => k_is)
    (case a23 => k_is)
    (case l23 => k_is)
    (case c23 => k_is)
    (case k23 => k_is)
    (case a24 => k_is)
    (case l24 => k_is)
    (case c24 => k_is)
    (case k24 => k_is)
    (case a25 => k_is)
    (case l25 => k_is)
    (case c25 => k_is)
    (case k25 => k_is)
    (case a26 => k_is)
    (case l26 => k_is)
    (case c26 => k_is)
    (case k26 => k_is)
    (case a27 => k_is)
    (case l27 => k_is)
    (case c27 => k_is)
    (case k27 => k_is)
    (case a28 => k_is)
    (case l28 => k_is)
    (case c28 => k_is)
    (case k28 => k_is)
    (case a29 => k_is)
    (case l29 => k_is)
    (case c29 => k_is)
    (case k29 => k_is)
    (case a30 => k_is)
    (case l30 => k_is)
    (case c30 => k_is)
    (case k30 => k_is)
    (case a31 => k_is)
    (case l31 => k_is)
    (case c31 => k_is)
    (case k31 => k_is)
    (case z_ValueError => k_is)
    (case z_all => k_is)
    (case z_any => k_is)
    (case z_bool => k_is)
    (case z_int => k_is)
    (case z_isinstance => k_is)
    (case z_len => k_is)
    (case z_min => k_is)
    (case z_range => k_is)
    (case z_str => k_is)
    (case z_super => k_is)
    (case z_tuple => k_is)
    (case v_MOST_LENGTH => k_is)
    (case v_NEVER => k_is)
    (case g_BadValue => k_is)
    (case g_Missing => k_is)
    (case g_Refused => k_is)
    (case g_SnagError => k_is)
    (case x_BadValue => k_is)
    (case sa_BadValue => k_is)
    (case ga_BadValue => k_is)
    (case gg_BadValue => k_is)
    (case eB_BadValue => k_is)
    (case tC_BadValue => k_is)
    (case kC_BadValue => k_is)
    (case hd_BadValue => k_is)
    (case hc_BadValue => k_is)
    (case mo_BadValue => k_is)
    (case no0_BadValue => k_is)
    (case em_BadValue_BadValue => first | rfl | k_is | kernel_rfl)
    (case ki_BadValue_BadValue => first | rfl | k_is | kernel_rfl)
    (case em_BadValue_Missing => first | rfl | k_is | kernel_rfl)
    (case ki_BadValue_Missing => first | rfl | k_is | kernel_rfl)
    (case em_BadValue_Refused => first | rfl | k_is | kernel_rfl)
    (case ki_BadValue_Refused => first | rfl | k_is | kernel_rfl)
    (case em_BadValue_SnagError => first | rfl | k_is | kernel_rfl)
    (case ki_BadValue_SnagError => first | rfl | k_is | kernel_rfl)
    (case kb_BadValue_ValueError => first | rfl | k_is | kernel_rfl)
    (case iC_BadValue => k_is)
    (case tI_BadValue => k_is)
    (case lI_BadValue => k_is)
    (case cI_BadValue => k_is)
    (case lc_BadValue => k_is)
    (case lv_BadValue => rfl)
    (case lf_BadValue => first | rfl | decide +kernel | kernel_rfl)
    (case ll_BadValue => k_is)
    (case su_BadValue => first | k_is | kernel_rfl)
    (case iv_BadValue => k_is)
    (case ms_BadValue => k_is)
    (case x_Missing => k_is)
    (case sa_Missing => k_is)
    (case ga_Missing => k_is)
    (case gg_Missing => k_is)
    (case eB_Missing => k_is)
    (case tC_Missing => k_is)
    (case kC_Missing => k_is)
    (case hd_Missing => k_is)
    (case hc_Missing => k_is)
    (case mo_Missing => k_is)
    (case no0_Missing => k_is)
    (case em_Missing_BadValue => first | rfl | k_is | kernel_rfl)
    (case ki_Missing_BadValue => first | rfl | k_is | kernel_rfl)
    (case em_Missing_Missing => first | rfl | k_is | kernel_rfl)
    (case ki_Missing_Missing => first | rfl | k_is | kernel_rfl)
    (case em_Missing_Refused => first | rfl | k_is | kernel_rfl)
    (case ki_Missing_Refused => first | rfl | k_is | kernel_rfl)
    (case em_Missing_SnagError => first | rfl | k_is | kernel_rfl)
    (case ki_Missing_SnagError => first | rfl | k_is | kernel_rfl)
    (case kb_Missing_ValueError => first | rfl | k_is | kernel_rfl)
    (case iC_Missing => k_is)
    (case tI_Missing => k_is)
    (case lI_Missing => k_is)
    (case cI_Missing => k_is)
    (case lc_Missing => k_is)
    (case lv_Missing => rfl)
    (case lf_Missing => first | rfl | decide +kernel | kernel_rfl)
    (case ll_Missing => k_is)
    (case su_Missing => first | k_is | kernel_rfl)
    (case iv_Missing => k_is)
    (case ms_Missing => k_is)
    (case x_Refused => k_is)
    (case sa_Refused => k_is)
    (case ga_Refused => k_is)
    (case gg_Refused => k_is)
    (case eB_Refused => k_is)
    (case tC_Refused => k_is)
    (case kC_Refused => k_is)
    (case hd_Refused => k_is)
    (case hc_Refused => k_is)
    (case mo_Refused => k_is)
    (case no0_Refused => k_is)
    (case em_Refused_BadValue => first | rfl | k_is | kernel_rfl)
    (case ki_Refused_BadValue => first | rfl | k_is | kernel_rfl)
    (case em_Refused_Missing => first | rfl | k_is | kernel_rfl)
    (case ki_Refused_Missing => first | rfl | k_is | kernel_rfl)
    (case em_Refused_Refused => first | rfl | k_is | kernel_rfl)
    (case ki_Refused_Refused => first | rfl | k_is | kernel_rfl)
    (case em_Refused_SnagError => first | rfl | k_is | kernel_rfl)
    (case ki_Refused_SnagError => first | rfl | k_is | kernel_rfl)
    (case kb_Refused_ValueError => first | rfl | k_is | kernel_rfl)
    (case iC_Refused => k_is)
    (case tI_Refused => k_is)
    (case lI_Refused => k_is)
    (case cI_Refused => k_is)
    (case lc_Refused => k_is)
    (case lv_Refused => rfl)
    (case lf_Refused => first | rfl | decide +kernel | kernel_rfl)
    (case ll_Refused => k_is)
    (case su_Refused => first | k_is | kernel_rfl)
    (case iv_Refused => k_is)
    (case ms_Refused => k_is)
    (case sn => k_is)
    (case tk => k_is)
    (case opq => k_is)
